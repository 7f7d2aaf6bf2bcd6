import PyProof.Rows.All
import Wide.All
import OpenK.AllK
import Wide.FinOn
import HandS.ForMost
import HandS.TupAny
import KE.KDictPairs
import KE.KeyNested
import HandS.Lambda
import HandS.Style
import HandS.Flow
import HandS.Zip
import HandS.TupSets
import KE.SortData
import HandS.Wide
import KE.DataEq
import KE.DataCmp
import KE.DataIsa
import HandS.IsInst
import HandS.WordsDict
import HandS.More
import PyProof.AutoSeq1
import HandS.List
import HandS.Dict
import PyProof.ReprRoads
import PyProof.CallFns
import HandS.ExcInit
import HandS.HeadHook1
import HandS.HeadEnd
import HandS.HeadHook2
import HandS.Defaults
import HandS.Words
import HandS.Head0
import HandS.Head1
import HandS.Head2
import KE.KStateDown
import HandS.WordsExc
import HandS.Keys
import PyProof.StrLawsRepr
import PyProof.FitsInt
import HandS.TupMul
import HandS.ListItems
import HandS.Strs
import HandS.NoneIn
import KE.KDictZip
import HandS.Small
import HandS.Conv
import KE.KDictKeyed
import PyProof.DictRoadsH
import HandS.DictComp
import PyProof.Draws
import KE.GoesMore
import HandS.FStr
import HandS.Text
import HandS.DictEq
import KE.DataMinKey
import HandS.NestedK
import HandS.EndTab
import HandS.HeadHook4
import KE.KNestM
import HandS.TupLen
import KE.KTurns
import HandS.ExcIs
import HandS.ExcField
import KE.KSuper
import KE.KExcSuper
import KE.DatumOrd
import ObjForm.LawKit
import HandS.Property
import PySem.Challenge.RW_keyrates_k01_errors_by_hand
set_option Elab.async false
set_option linter.all false
set_option maxRecDepth 100000
set_option maxHeartbeats 8000000
set_option exponentiation.threshold 10000
/-! DY: tuples that are known to have no dict of their own. -/
namespace DY
open PySem PySem.Spec PyProof.Rows L2
/-- a tuple, known to its object, which has no dict -/
def TupP (K : PySem.W.Frag) (P : Hp) (a : Addr) (xs : List V) : Prop :=
  (∃ o, P a = some (.frz o (.tup xs)) ∧ o.dict = none) ∨ ∃ (o : Obj) (its : Array Value) (n : Nat), K.lookup a = some o ∧ o.cls = .type "tuple" ∧ o.dict = none ∧ o.data = .seq its n ∧ its.size ≤ sizeLine ∧ Vals xs its.toList
theorem TupP.sq {K : PySem.W.Frag} {P : Hp} {a : Addr} {xs : List V} (h : TupP K P a xs) : SqT K P a xs := by
  rcases h with ⟨o, h, _⟩ | ⟨o, its, n, h1, h2, _, h3⟩
  · exact .inl (.inr ⟨o, h⟩)
  · exact .inr ⟨o, its, n, h1, h2, h3⟩
theorem TupP.mono {K : PySem.W.Frag} {P P' : Hp} {a : Addr} {xs : List V} (h : TupP K P a xs) (s : ∀ a o, P a = some o → P' a = some o) : TupP K P' a xs :=
  h.imp (fun ⟨o, h1, h2⟩ => ⟨o, s _ _ h1, h2⟩) id
theorem TupP.new {K : PySem.W.Frag} {P : Hp} {a : Addr} {xs : List V} {o : Obj} (h : P a = some (.frz o (.tup xs))) (hd : o.dict = none) : TupP K P a xs := .inl ⟨o, h, hd⟩
section
variable {X : Cx} {pins : List (Addr × Obj)} {σ : L2.St} {H : Hp} {s : Shared}
theorem plain_of {a : Addr} {xs : List V} (I : Inv X pins σ H s) (h : TupP X.K H a xs) : ∃ its : List Value, Vals xs its ∧ PlainSeq "tuple" s.heap a its.toArray ∧ xs.length ≤ sizeLine := by
  rcases h with ⟨o, h1, h2⟩ | ⟨o, its, n, h1, h2, h3, h4, h5, h6⟩
  · obtain ⟨e, hz, its, r, o', e', hc, n, hd⟩ := I.hok a _ h1
    rw [e] at e'; cases e'
    exact ⟨its, r, ⟨o, n, e, hc, h2, hd⟩, hz⟩
  · refine ⟨its.toList, h6, ⟨o, n, I.kIn a o h1, h2, h3, by simpa using h4⟩, ?_⟩
    rw [h6.length, Array.length_toList]; exact h5
/-- a new tuple -/
abbrev NewT (H : Hp) (xs : List V) (Q : VK) : Prop := ∀ (p : Addr) (o : Obj), H p = none → o.dict = none → Q (.ref p) (upd H p (.frz o (.tup xs)))
theorem laidT {xs : List V} {its : List Value} {h' : Heap} {tk : Nat} {Q : VK} (I : Inv X pins σ H { s with heap := h', toks := tk }) (r : Vals xs its) (hz : xs.length ≤ sizeLine) (q : NewT H xs Q) :
    EP X pins σ Q (.ref h'.objs.size) { s with heap := h'.push { cls := .type "tuple", data := .seq its.toArray }, toks := tk } := by
  have hf : H h'.objs.size = none := I.hok.fresh (Nat.le_refl _)
  refine ⟨.ref h'.objs.size, upd H h'.objs.size (.frz { cls := .type "tuple", data := .seq its.toArray } (.tup xs)), I.laid (t' := tk) (fun b u e => Heap.get?_push_of_some _ e) (Nat.le_refl _) ?_, rfl, q _ _ hf rfl⟩
  exact ⟨Heap.get?_push_size _ rfl, hz, its, r, ⟨_, Heap.get?_push_size _ rfl, rfl, _, rfl⟩⟩
variable {es : List Expr} {t : TA} {pos : Pos}
def tTupF (t : TA) : TE := fun σ H Q => t σ H fun xs H1 => xs.length ≤ sizeLine ∧ NewT H1 xs Q
theorem pe_tupF {k : Nat} (h : PA X es t) : PE X (.Tuple es k pos) (tTupF t) := by
  refine ⟨fun pins s σ H Q I hq => wpAny_Tuple_spliced (thn (h.run pos pins s σ H _ I hq) fun us s1 ⟨xs, H1, I1, r, z, q⟩ => ⟨by rw [← r.length]; exact z, ?_⟩)⟩
  exact laidT (s := s1) (h' := s1.heap) (tk := s1.toks) I1 r z q
/-- t + u -/
def rCatF (K : PySem.W.Frag) : R2 := fun x y H Q => ∃ a b xs ys, x = .ref a ∧ y = .ref b ∧ SqT K H a xs ∧ SqT K H b ys ∧ xs.length + ys.length ≤ sizeLine ∧
  (xs = [] → Q (.ref b) H) ∧ (xs ≠ [] → ys = [] → Q (.ref a) H) ∧ (xs ≠ [] → ys ≠ [] → NewT H (xs ++ ys) Q)
theorem op_catF : OpR X (binaryOp .Add) (rCatF X.K) := by
  intro pins s σ H x y v u Q I rx ry h
  obtain ⟨a, b, xs, ys, rfl, rfl, ha, hb, hz, q0, q1, q2⟩ := h
  obtain rfl : v = .ref a := rx
  obtain rfl : u = .ref b := ry
  obtain ⟨its, r1, p1, _⟩ := I.tuple ha
  obtain ⟨its2, r2, p2, _⟩ := I.tuple hb
  by_cases hx : xs = []
  · subst hx
    obtain rfl := Vals.zero r1
    exact cat_tup0 p1 p2 ⟨.ref b, H, I, rfl, q0 rfl⟩
  · have hv : its ≠ [] := fun e => hx ((Vals.nil_iff r1).mp e)
    refine HT.cat_tup p1 p2 hv (fun e => ⟨.ref a, H, I, rfl, q1 hx ((Vals.nil_iff r2).mp e)⟩) (fun e => ?_) (by rw [← r1.length, ← r2.length]; exact hz)
    exact laidT (h' := s.heap) (tk := s.toks) I (r1.append r2) (by simpa using hz) (q2 hx fun z => e ((Vals.nil_iff r2).mpr z))
end
end DY
/-! DZ: promises of defs that are called where no repr runs. -/
namespace DZ
open PySem PySem.Spec PyProof.Rows L2
/-- as FnOk, where the guards of repr are free -/
structure FnG (P : Program) (w : World) (K : PySem.W.Frag) (mg : Str → Option Value) (base : Heap) (CX : CXT) (k : Nat) (f : Addr) (fd : FuncData) (ps : List Str) (sp : Sp) : Prop where
  len : ∀ vs H Q E, sp vs H Q E → vs.length = ps.length
  run : ∀ (A : Around) (outer : List Env) (s : Shared) (H : Hp) (args : Args) (us : List Value) (vs : List V) (Q : VK) (E : XK), Room k A → A.guards = some [] → Env0 P w K mg base A outer s H →
    BindsTo s fd args (ps.zip us) → Vals vs us → sp vs H Q E → codeAny (model P w) A (.call (.ref f) args) (CR CX outer P w H s Q E) s
section
variable {P : Program} {w : World} {K : PySem.W.Frag} {mg : Str → Option Value} {base : Heap} {CX : CXT} {j k : Nat} {f : Addr} {fd : FuncData} {ps : List Str} {sp sp' : Sp}
theorem FnG.mono (F : FnG P w K mg base CX j f fd ps sp) (h : j ≤ k) : FnG P w K mg base CX k f fd ps sp := ⟨F.len, fun A o s H a us vs Q E hr hg => F.run A o s H a us vs Q E (hr.mono h) hg⟩
theorem FnG.imp (F : FnG P w K mg base CX k f fd ps sp) (h : ∀ vs H Q E, sp' vs H Q E → sp vs H Q E) : FnG P w K mg base CX k f fd ps sp' :=
  ⟨fun vs H Q E q => F.len vs H Q E (h _ _ _ _ q), fun A o s H a us vs Q E hr hg e0 b r q => F.run A o s H a us vs Q E hr hg e0 b r (h _ _ _ _ q)⟩
theorem fnG_of {x qual : Str} {stm : Stmt} {N : List Str} (F : Fun K x qual stm f fd) (Sc : FnScope N ps (defScope stm)) (len : ∀ vs H Q E, sp vs H Q E → vs.length = ps.length)
    (hbody : ∀ (cdv : Value) (A : Around) (outer : List Env) (s : Shared) (H : Hp) (vs : List V) (Q : VK) (E : XK), Room k (A.deeper (envOfC qual (defScope stm) s.heap.objs.size f cdv)) → A.guards = some [] → sp vs H Q E →
      ∃ t, PSs (cxOf CX P w K mg base N qual (defScope stm) f cdv A outer s H E) (defBody stm) t ∧ t { nx := fun _ H' => Q .non H', rt := Q } (L2.start N vs) H) : FnG P w K mg base CX (k + 1) f fd ps sp := by
  obtain ⟨oc, od, kV, doc, pm, an, cdv, ct, osl, rfl, lk, hcd⟩ := F.ex
  refine ⟨len, fun A outer s H args us vs Q E hr hgd e0 hb r hsp => ?_⟩
  have up : ∀ b o, base.get? b = some o → s.heap.get? b = some o := fun b o e => (e0.bs b o e).1
  have KX : K.In s.heap := e0.mod.kin.keeps up
  obtain ⟨t, ht, hq⟩ := hbody cdv A outer s H vs Q E (hr.deeper _) hgd hsp
  refine codeAny_call_function hr.depth (KX _ _ lk) rfl Sc.co Sc.gen rfl (PySem.W.codeRec_of KX hcd) (hb _ _ _ _ (wpAny_newFunctionEnv_cells Sc.kind (fun ⟨n, v⟩ hy => ?_) fun env he s1 x => ?_))
  · rcases Sc.par n (List.of_mem_zip hy).1 with q | q
    · left; exact q
    · right; exact ⟨q, PySem.W.cellsFrom_some _ _ _ (.inl q)⟩
  · subst he
    refine ⟨(e0.mod.nolimit.keeps up).keeps x.toInCall.keep, codeAny_func (wpAny_mono (ht.run [] s1 (L2.start N vs) H _ (inv_start Sc hr.hd e0 (len _ _ _ _ hsp) r x) hq) (fun fl s' hs => ?_) fun e s' hs => hs)⟩
    cases fl with
    | ret u => obtain ⟨v, σ', H', J, rv, q⟩ := hs; exact ⟨v, H', J.os, J.bare, J.base, J.hok, rv, q⟩
    | next => obtain ⟨σ', H', J, q⟩ := hs; exact ⟨V.non, H', J.os, J.bare, J.base, J.hok, rfl, q⟩
    | brk => obtain ⟨_, _, _, q⟩ := hs; exact q.elim
    | cont => obtain ⟨_, _, _, q⟩ := hs; exact q.elim
end
section
variable {X : Cx} {CX : CXT} {k : Nat} {f : Addr} {fd : FuncData} {ps ks : List Str} {sp : Sp} {E : XK} {x : Str} {p pos : Pos} {e : Expr} {es : List Expr} {t tk : TA} {kws : List Keyword}
theorem pe_callG (F : FnG X.prog X.w X.K X.mg X.base CX k f fd ps sp) (hr : Room k X.A) (hgd : X.A.guards = some []) (hg : Gl X x) (hm : X.mg x = some (.ref f)) (hk : PySem.W.keepIn X.K (.ref f) = true) (hb : Binds X.K fd ps []) (hx : Passes CX X E)
    (ha : PA X (e :: es) t) (hdb : (x == ("__debug__" : Str)) = false) (he : starEach (e :: es) X.env = (false, eval e X.env) :: starEach es X.env) (hpl : (backTo pos (starEach es X.env)).any (·.1) = false) :
    PE X (.Call (.Name x p) (e :: es) [] pos) (fun σ H Q => t σ H fun vs H1 => sp vs H1 Q E) := by
  refine ⟨fun pins s σ H Q I h => wpAny_Call_Name_kw (ld_glob I hg hm (PySem.W.callWith_K (h₀ := X.base) I.ok.mod.kin hk (thn (ha.run pos pins s σ H _ I h) fun us s1 ⟨vs, H1, I1, r, q⟩ => ⟨I1.kIn, ?_⟩) he hpl) hdb)⟩
  have hl : us.length = ps.length := r.length.symm.trans (F.len _ _ _ _ q)
  have hbt := hb s1 us I1.kIn (by rw [List.append_nil]; exact hl)
  rw [List.append_nil] at hbt
  refine wpAny_call (codeAny_mono (F.run X.A X.stack s1 H1 ⟨us, []⟩ us vs Q E hr hgd I1.env0 hbt r q) fun r s' hq => ?_)
  cases r with
  | error er => exact hx pins σ H1 s1 er s' I1 hq
  | ok fl =>
    cases fl with
    | ret u => exact I1.after hq
    | _ => exact hq.elim
end
end DZ
/-! DL: data as trees over the hand layer. -/
namespace DL
open PySem PySem.Spec L2
/-- a datum -/
inductive D where
  | non | bl (b : Bool) | int (i : Int) | str (x : Str)
  | tup (xs : List D) | lst (xs : List D) | dct (kvs : List (D × D)) | dcn (kvs : List (D × D)) | obj (n : Nat)
/-- what is shared: frozen things, and the numbered things of the world -/
structure PM where
  hp : Hp
  ob : Nat → Option Addr
instance : CoeFun PM (fun _ => Addr → Option HO) := ⟨PM.hp⟩
instance : Coe PM Hp := ⟨PM.hp⟩
def PM.nil : PM := ⟨fun _ => none, fun _ => none⟩
def updP (P : PM) (a : Addr) (o : HO) : PM := ⟨upd P.hp a o, P.ob⟩
theorem updP_same {P : PM} {a : Addr} {o : HO} : (updP P a o).hp a = some o := L2.upd_same
theorem updP_ne {P : PM} {a b : Addr} {o : HO} (h : b ≠ a) : (updP P a o).hp b = P.hp b := L2.upd_ne h
/-- a lambda's code object -/
def Cod (o : HO) : Prop := ∃ c q, o = LamX.CodeO c q
def kD : Key → D
  | .inl i => .int i
  | .inr x => .str x
/-- a dict's object -/
def IsDK (o : HO) (kvs : List (Key × V)) : Prop := o = .dK kvs ∨ ∃ ob, o = .frz ob (.dK kvs)
theorem IsDK.rd {o : HO} {kvs : List (Key × V)} {H : Hp} {a : Addr} (h : IsDK o kvs) (e : H a = some o) : Rd H a (.dK kvs) := by
  rcases h with rfl | ⟨ob, rfl⟩
  · exact .inl e
  · exact .inr ⟨ob, e⟩
/-- a dict, locked or not -/
def DObj (o : HO) (ks : List (D × V)) : Prop := ∃ kvs : List (Key × V), IsDK o kvs ∧ ks = kvs.map fun p => (kD p.1, p.2)
/-- a dict that is not locked -/
def DObjK (o : HO) (ks : List (D × V)) : Prop := ∃ kvs : List (Key × V), o = .dK kvs ∧ ks = kvs.map fun p => (kD p.1, p.2)
theorem DObjK.any {o : HO} {ks : List (D × V)} (h : DObjK o ks) : DObj o ks := let ⟨kvs, e, z⟩ := h; ⟨kvs, .inl e, z⟩
mutual
/-- a key of any depth -/
def nkD : D → Option NestedKey
  | .int i => some (.num i)
  | .str x => some (.text x)
  | .tup ds => (nksD ds).map NestedKey.tup
  | _ => none
def nksD : List D → Option (List NestedKey)
  | [] => some []
  | d :: ds => match nkD d, nksD ds with
    | some k, some ks => some (k :: ks)
    | _, _ => none
end
/-- a dict at a whose keys are tuples: its entries -/
def nDictO (w : World) (a : Addr) (xs : List (NestedKey × Addr × Value)) : HO := .ext fun h => (a == sysModules) = false ∧ xs.length ≤ sizeLine ∧ (xs.map (·.1)).Nodup ∧ ∃ o es ep, h.get? a = some o ∧ o.ExactDict ∧ o.data = .dict es ep ∧ es.toList = xs.map fun x => (⟨x.1.hash w, .ref x.2.1, x.2.2⟩ : DictEntry)
def IsDN (w : World) (a : Addr) (o : HO) (xs : List (NestedKey × Addr × Value)) : Prop := o = nDictO w a xs ∨ ∃ ob, o = .frz ob (nDictO w a xs)
def SameO (a : Addr) (o o' : HO) : Prop := o' = o ∨ (∃ ks, IsDK o ks ∧ IsDK o' ks) ∨ ∃ w ys, IsDN w a o ys ∧ IsDN w a o' ys
/-- what is shared stays, but for locks -/
def LeP (P P' : PM) : Prop := ∀ a o, P.hp a = some o → ∃ o', P'.hp a = some o' ∧ SameO a o o'
/-- the world of mutable things that several defs share -/
structure Wd (G : Type) where
  fp : (Nat → Option Addr) → Addr → Prop
  holds : G → PM → Hp → Prop
  ref : Nat → V
  pw : World
  loc : ∀ (g : G) (P P' : PM) (H H' : Hp), holds g P H → LeP P P' → P'.ob = P.ob → (∀ a, fp P.ob a → H' a = H a) → (∀ a o, H a = some o → Cod o → H' a = some o) → holds g P' H'
  mono : ∀ (ob ob' : Nat → Option Addr) (a : Addr), (∀ n x, ob n = some x → ob' n = some x) → fp ob a → fp ob' a
  there : ∀ (g : G) (P : PM) (H : Hp) (a : Addr), holds g P H → fp P.ob a → H a ≠ none
variable {G : Type}
mutual
/-- v stands for d, by things of P -/
def Rep (K : PySem.W.Frag) (W : Wd G) (P : PM) : D → V → Prop
  | .non, v => v = .non
  | .bl b, v => v = .bl b
  | .int i, v => v = .int i
  | .str x, v => v = .str x
  | .tup ds, v => ∃ a xs, v = .ref a ∧ DY.TupP K P a xs ∧ ds.length ≤ sizeLine ∧ Reps K W P ds xs
  | .lst ds, v => ∃ a xs, v = .ref a ∧ P a = some (.lst xs) ∧ ds.length ≤ sizeLine ∧ Reps K W P ds xs
  | .dct kvs, v => ∃ a o ks, v = .ref a ∧ P a = some o ∧ DObj o ks ∧ Repk K W P kvs ks
  | .dcn kvs, v => ∃ a o xs, v = .ref a ∧ P a = some o ∧ IsDN W.pw a o xs ∧ Repn K W P kvs xs
  | .obj n, v => (n < 4 ∧ v = W.ref n) ∨ (4 ≤ n ∧ ∃ a, P.ob n = some a ∧ v = .ref a)
def Reps (K : PySem.W.Frag) (W : Wd G) (P : PM) : List D → List V → Prop
  | [], vs => vs = []
  | d :: ds, vs => ∃ v r, vs = v :: r ∧ Rep K W P d v ∧ Reps K W P ds r
def Repk (K : PySem.W.Frag) (W : Wd G) (P : PM) : List (D × D) → List (D × V) → Prop
  | [], vs => vs = []
  | (k, d) :: ds, vs => ∃ v r, vs = (k, v) :: r ∧ Rep K W P d v ∧ Repk K W P ds r
def Repn (K : PySem.W.Frag) (W : Wd G) (P : PM) : List (D × D) → List (NestedKey × Addr × Value) → Prop
  | [], xs => xs = []
  | (k, d) :: ds, xs => ∃ nk b u v r, xs = (nk, b, u) :: r ∧ nkD k = some nk ∧ nk.depth ≤ 8 ∧ Rep K W P k (.ref b) ∧ RelV v u ∧ Rep K W P d v ∧ Repn K W P ds r
end
/-- a tuple that is only taken apart; else as Rep -/
def RepA (K : PySem.W.Frag) (W : Wd G) (P : PM) : D → V → Prop
  | .tup ds, v => ∃ a xs, v = .ref a ∧ SqT K P a xs ∧ Reps K W P ds xs
  | _, _ => False
def RepF (K : PySem.W.Frag) (W : Wd G) (P : PM) (A : Bool) (d : D) (v : V) : Prop := if A = true then RepA K W P d v else Rep K W P d v
def Sub (P H : Hp) : Prop := ∀ a o, P a = some o → H a = some o
theorem Sub.refl (P : Hp) : Sub P P := fun _ _ h => h
theorem Sub.trans {P Q R : Hp} (a : Sub P Q) (b : Sub Q R) : Sub P R := fun x o h => b x o (a x o h)
def SubP (P P' : PM) : Prop := Sub P.hp P'.hp ∧ ∀ n a, P.ob n = some a → P'.ob n = some a
theorem SubP.refl (P : PM) : SubP P P := ⟨Sub.refl _, fun _ _ h => h⟩
theorem SubP.trans {P Q R : PM} (a : SubP P Q) (b : SubP Q R) : SubP P R := ⟨a.1.trans b.1, fun n x h => b.2 n x (a.2 n x h)⟩
theorem SubP.upd {P : PM} {a : Addr} {o : HO} (h : P.hp a = none) : SubP P (updP P a o) := ⟨fun b u e => by rw [updP_ne fun y => by subst y; rw [h] at e; cases e]; exact e, fun _ _ h => h⟩
theorem SubP.le {P P' : PM} (h : SubP P P') : LeP P P' := fun a o e => ⟨o, h.1 a o e, .inl rfl⟩
theorem LeP.refl (P : PM) : LeP P P := fun a o e => ⟨o, e, .inl rfl⟩
section
variable {K : PySem.W.Frag} {P P' : PM}
theorem LeP.lst {a : Addr} {xs : List V} (h : LeP P P') (e : P a = some (.lst xs)) : P' a = some (.lst xs) := by
  obtain ⟨o', e', s⟩ := h a _ e
  rcases s with rfl | ⟨ks, i, _⟩ | ⟨w, ys, i, _⟩
  · exact e'
  · rcases i with i | ⟨_, i⟩ <;> cases i
  · rcases i with i | ⟨_, i⟩ <;> cases i
theorem LeP.tup {a : Addr} {xs : List V} (h : LeP P P') (e : DY.TupP K P a xs) : DY.TupP K P' a xs := by
  rcases e with ⟨o, e, hd⟩ | e
  · refine .inl ⟨o, ?_, hd⟩
    obtain ⟨o', e', s⟩ := h a _ e
    rcases s with rfl | ⟨ks, i, _⟩ | ⟨w, ys, i, _⟩
    · exact e'
    · rcases i with i | ⟨_, i⟩ <;> cases i
    · rcases i with i | ⟨_, i⟩ <;> cases i
  · exact .inr e
theorem LeP.dct {a : Addr} {o : HO} {kk : List (D × V)} (h : LeP P P') (e : P a = some o) (i : DObj o kk) : ∃ o', P' a = some o' ∧ DObj o' kk := by
  obtain ⟨o', e', s⟩ := h a _ e
  rcases s with rfl | ⟨ks, i1, i2⟩ | ⟨w, ys, i1, _⟩
  · exact ⟨_, e', i⟩
  · obtain ⟨kvs, hk, rfl⟩ := i
    have : kvs = ks := by
      rcases hk with rfl | ⟨x, rfl⟩
      · rcases i1 with h' | ⟨_, h'⟩
        · cases h'; rfl
        · cases h'
      · rcases i1 with h' | ⟨_, h'⟩
        · cases h'
        · cases h'; rfl
    subst this
    exact ⟨o', e', _, i2, rfl⟩
  · obtain ⟨kvs, hk, rfl⟩ := i
    rcases i1 with rfl | ⟨_, rfl⟩ <;> rcases hk with hk | ⟨_, hk⟩ <;> cases hk
theorem LeP.dcn {w' : World} {a : Addr} {o : HO} {xs : List (NestedKey × Addr × Value)} (h : LeP P P') (e : P a = some o) (i : IsDN w' a o xs) : ∃ o', P' a = some o' ∧ IsDN w' a o' xs := by
  obtain ⟨o', e', s⟩ := h a _ e
  rcases s with rfl | ⟨ks, i1, i2⟩ | ⟨w, ys, i1, i2⟩
  · exact ⟨_, e', i⟩
  · rcases i with rfl | ⟨_, rfl⟩ <;> rcases i1 with i1 | ⟨_, i1⟩ <;> cases i1
  · have e : nDictO w' a xs = nDictO w a ys := by
      rcases i with rfl | ⟨x, rfl⟩
      · rcases i1 with h1 | ⟨y, h1⟩
        · exact h1
        · cases h1
      · rcases i1 with h1 | ⟨y, h1⟩
        · cases h1
        · simp only [HO.frz.injEq] at h1; exact h1.2
    refine ⟨o', e', ?_⟩
    unfold IsDN at i2 ⊢
    rw [e]; exact i2
end
theorem Sub.rd {P H : Hp} (s : Sub P H) {a : Addr} {o : HO} (r : Rd P a o) : Rd H a o := by
  rcases r with r | ⟨u, r⟩
  · exact .inl (s _ _ r)
  · exact .inr ⟨u, s _ _ r⟩
theorem Sub.sqT {P H : Hp} (s : Sub P H) {K : PySem.W.Frag} {a : Addr} {xs : List V} (r : SqT K P a xs) : SqT K H a xs := r.imp s.rd id
mutual
theorem Rep.mono {K : PySem.W.Frag} {W : Wd G} {P P' : PM} (s : SubP P P') : ∀ (d : D) (v : V), Rep K W P d v → Rep K W P' d v
  | .non, _, h => by simpa only [Rep] using h
  | .bl _, _, h => by simpa only [Rep] using h
  | .int _, _, h => by simpa only [Rep] using h
  | .str _, _, h => by simpa only [Rep] using h
  | .obj n, _, h => by
    simp only [Rep] at h ⊢
    rcases h with h | ⟨h, a, e, q⟩
    · exact .inl h
    · exact .inr ⟨h, a, s.2 n a e, q⟩
  | .tup ds, v, h => by
    simp only [Rep] at h ⊢
    obtain ⟨a, xs, e, q, z, r⟩ := h
    exact ⟨a, xs, e, q.mono s.1, z, Reps.mono s ds xs r⟩
  | .lst ds, v, h => by
    simp only [Rep] at h ⊢
    obtain ⟨a, xs, e, q, z, r⟩ := h
    exact ⟨a, xs, e, s.1 _ _ q, z, Reps.mono s ds xs r⟩
  | .dct kvs, v, h => by
    simp only [Rep] at h ⊢
    obtain ⟨a, o, ks, e, q, z, r⟩ := h
    exact ⟨a, o, ks, e, s.1 _ _ q, z, Repk.mono s kvs ks r⟩
  | .dcn kvs, v, h => by
    simp only [Rep] at h ⊢
    obtain ⟨a, o, xs, e, q, z, r⟩ := h
    exact ⟨a, o, xs, e, s.1 _ _ q, z, Repn.mono s kvs xs r⟩
theorem Reps.mono {K : PySem.W.Frag} {W : Wd G} {P P' : PM} (s : SubP P P') : ∀ (ds : List D) (vs : List V), Reps K W P ds vs → Reps K W P' ds vs
  | [], _, h => by simpa only [Reps] using h
  | d :: ds, vs, h => by
    simp only [Reps] at h ⊢
    obtain ⟨v, r, e, h1, h2⟩ := h
    exact ⟨v, r, e, Rep.mono s d v h1, Reps.mono s ds r h2⟩
theorem Repk.mono {K : PySem.W.Frag} {W : Wd G} {P P' : PM} (s : SubP P P') : ∀ (ds : List (D × D)) (vs : List (D × V)), Repk K W P ds vs → Repk K W P' ds vs
  | [], _, h => by simpa only [Repk] using h
  | (k, d) :: ds, vs, h => by
    simp only [Repk] at h ⊢
    obtain ⟨v, r, e, h1, h2⟩ := h
    exact ⟨v, r, e, Rep.mono s d v h1, Repk.mono s ds r h2⟩
theorem Repn.mono {K : PySem.W.Frag} {W : Wd G} {P P' : PM} (s : SubP P P') : ∀ (ds : List (D × D)) (xs : List (NestedKey × Addr × Value)), Repn K W P ds xs → Repn K W P' ds xs
  | [], _, h => by simpa only [Repn] using h
  | (k, d) :: ds, xs, h => by
    simp only [Repn] at h ⊢
    obtain ⟨nk, b, u, v, r, e, h1, h2, h3, h4, h5, h6⟩ := h
    exact ⟨nk, b, u, v, r, e, h1, h2, Rep.mono s k _ h3, h4, Rep.mono s d v h5, Repn.mono s ds r h6⟩
end
mutual
theorem Rep.le {K : PySem.W.Frag} {W : Wd G} {P P' : PM} (s : LeP P P') (b : ∀ n a, P.ob n = some a → P'.ob n = some a) : ∀ (d : D) (v : V), Rep K W P d v → Rep K W P' d v
  | .non, _, h => by simpa only [Rep] using h
  | .bl _, _, h => by simpa only [Rep] using h
  | .int _, _, h => by simpa only [Rep] using h
  | .str _, _, h => by simpa only [Rep] using h
  | .obj n, _, h => by
    simp only [Rep] at h ⊢
    rcases h with h | ⟨h, a, e, q⟩
    · exact .inl h
    · exact .inr ⟨h, a, b n a e, q⟩
  | .tup ds, v, h => by
    simp only [Rep] at h ⊢
    obtain ⟨a, xs, e, q, z, r⟩ := h
    exact ⟨a, xs, e, s.tup q, z, Reps.le s b ds xs r⟩
  | .lst ds, v, h => by
    simp only [Rep] at h ⊢
    obtain ⟨a, xs, e, q, z, r⟩ := h
    exact ⟨a, xs, e, s.lst q, z, Reps.le s b ds xs r⟩
  | .dct kvs, v, h => by
    simp only [Rep] at h ⊢
    obtain ⟨a, o, ks, e, q, z, r⟩ := h
    obtain ⟨o', q', z'⟩ := s.dct q z
    exact ⟨a, o', ks, e, q', z', Repk.le s b kvs ks r⟩
  | .dcn kvs, v, h => by
    simp only [Rep] at h ⊢
    obtain ⟨a, o, xs, e, q, z, r⟩ := h
    obtain ⟨o', q', z'⟩ := s.dcn q z
    exact ⟨a, o', xs, e, q', z', Repn.le s b kvs xs r⟩
theorem Reps.le {K : PySem.W.Frag} {W : Wd G} {P P' : PM} (s : LeP P P') (b : ∀ n a, P.ob n = some a → P'.ob n = some a) : ∀ (ds : List D) (vs : List V), Reps K W P ds vs → Reps K W P' ds vs
  | [], _, h => by simpa only [Reps] using h
  | d :: ds, vs, h => by
    simp only [Reps] at h ⊢
    obtain ⟨v, r, e, h1, h2⟩ := h
    exact ⟨v, r, e, Rep.le s b d v h1, Reps.le s b ds r h2⟩
theorem Repk.le {K : PySem.W.Frag} {W : Wd G} {P P' : PM} (s : LeP P P') (b : ∀ n a, P.ob n = some a → P'.ob n = some a) : ∀ (ds : List (D × D)) (vs : List (D × V)), Repk K W P ds vs → Repk K W P' ds vs
  | [], _, h => by simpa only [Repk] using h
  | (k, d) :: ds, vs, h => by
    simp only [Repk] at h ⊢
    obtain ⟨v, r, e, h1, h2⟩ := h
    exact ⟨v, r, e, Rep.le s b d v h1, Repk.le s b ds r h2⟩
theorem Repn.le {K : PySem.W.Frag} {W : Wd G} {P P' : PM} (s : LeP P P') (b : ∀ n a, P.ob n = some a → P'.ob n = some a) : ∀ (ds : List (D × D)) (xs : List (NestedKey × Addr × Value)), Repn K W P ds xs → Repn K W P' ds xs
  | [], _, h => by simpa only [Repn] using h
  | (k, d) :: ds, xs, h => by
    simp only [Repn] at h ⊢
    obtain ⟨nk, b', u, v, r, e, h1, h2, h3, h4, h5, h6⟩ := h
    exact ⟨nk, b', u, v, r, e, h1, h2, Rep.le s b k _ h3, h4, Rep.le s b d v h5, Repn.le s b ds r h6⟩
end
/-- what a slot or a value in hand is: a shared datum, an own new thing, the thing of slot i -/
inductive S where
  | sh (d : D) | ow (d : D) | at (i : Nat) | any
abbrev Sl := List (Option S)
inductive Tag where
  | slot (i : Nat) | tmp (i : Nat)
/-- v reads as d in H, its parts by P -/
def Rd1 (K : PySem.W.Frag) (W : Wd G) (P : PM) (H : Hp) : D → V → Prop
  | .lst ds, v => ∃ a xs, v = .ref a ∧ H a = some (.lst xs) ∧ ds.length ≤ sizeLine ∧ Reps K W P ds xs
  | .dct kvs, v => ∃ a o ks, v = .ref a ∧ H a = some o ∧ DObj o ks ∧ Repk K W P kvs ks
  | .dcn kvs, v => ∃ a o xs, v = .ref a ∧ H a = some o ∧ IsDN W.pw a o xs ∧ Repn K W P kvs xs
  | d, v => Rep K W P d v
/-- an own thing's object -/
def Own (K : PySem.W.Frag) (W : Wd G) (P : PM) (a : Addr) (o : HO) : D → Prop
  | .lst ds => ∃ xs, o = .lst xs ∧ ds.length ≤ sizeLine ∧ Reps K W P ds xs
  | .dct kvs => ∃ ks, DObjK o ks ∧ Repk K W P kvs ks
  | .dcn kvs => ∃ xs, o = nDictO W.pw a xs ∧ Repn K W P kvs xs
  | _ => False
def SOk (K : PySem.W.Frag) (W : Wd G) (P : PM) (O : Addr → Option Tag) (H : Hp) (σ : St) (t : Tag) (v : V) : S → Prop
  | .sh d => Rep K W P d v
  | .ow d => ∃ a o, v = .ref a ∧ O a = some t ∧ H a = some o ∧ Own K W P a o d
  | .at i => σ[i]? = some (some v)
  | .any => True
def TOk (K : PySem.W.Frag) (W : Wd G) (P : PM) (O : Addr → Option Tag) (H : Hp) (σ : St) : List V → List S → Prop
  | [], [] => True
  | v :: τ, s :: ts => SOk K W P O H σ (.tmp τ.length) v s ∧ TOk K W P O H σ τ ts
  | _, _ => False
structure RelB (K : PySem.W.Frag) (W : Wd G) (P₀ : PM) (H₀ : Hp) (P : PM) (O : Addr → Option Tag) (σ : St) (st : Sl) (τ : List V) (ts : List S) (H : Hp) (g : G) : Prop where
  sub : Sub P H
  base : ∀ a o, H₀ a = some o → ¬ W.fp P.ob a → H a = some o
  p0 : SubP P₀ P
  new : ∀ a, P a ≠ none → P₀ a ≠ none ∨ H₀ a = none
  nfp : ∀ a, P a ≠ none → ¬ W.fp P.ob a
  fpn : ∀ a, W.fp P.ob a → W.fp P₀.ob a ∨ H₀ a = none
  own : ∀ a t, O a = some t → P a = none ∧ H₀ a = none ∧ ¬ W.fp P.ob a ∧ H a ≠ none
  wld : W.holds g P H
  len : st.length = σ.length
  slots : ∀ (i : Nat) s, st[i]? = some (some s) → ∃ v, σ[i]? = some (some v) ∧ (∀ j, s ≠ .at j) ∧ SOk K W P O H σ (.slot i) v s
  temps : TOk K W P O H σ τ ts
def Rel (K : PySem.W.Frag) (W : Wd G) (P₀ : PM) (H₀ : Hp) (σ : St) (st : Sl) (τ : List V) (ts : List S) (H : Hp) (g : G) : Prop :=
  ∃ P O, RelB K W P₀ H₀ P O σ st τ ts H g
abbrev M (G α : Type) := Sl → G → Option (α × Sl × G)
def bnd {α β : Type} (x : Option (α × Sl × G)) (k : α → Sl → G → Option β) : Option β :=
  match x with
  | none => none
  | some (a, st, g) => k a st g
@[simp] theorem bnd_some {α β : Type} (a : α) (st : Sl) (g : G) (k : α → Sl → G → Option β) : bnd (some (a, st, g)) k = k a st g := rfl
@[simp] theorem bnd_none {α β : Type} (k : α → Sl → G → Option β) : bnd (none : Option (α × Sl × G)) k = none := rfl
theorem bnd_eq {α β : Type} {x : Option (α × Sl × G)} {k : α → Sl → G → Option β} {b : β} (h : bnd x k = some b) : ∃ a st g, x = some (a, st, g) ∧ k a st g = some b := by
  cases x with
  | none => cases h
  | some y => exact ⟨y.1, y.2.1, y.2.2, rfl, h⟩
def peek (s : S) (st : Sl) : Option D :=
  match s with
  | .sh d => some d
  | .ow d => some d
  | .at i => match st[i]? with
    | some (some (.sh d)) => some d
    | some (some (.ow d)) => some d
    | _ => none
  | .any => none
/-- the value is kept elsewhere: it is shared from now on -/
def take (s : S) (st : Sl) : Option (D × Sl) :=
  match s with
  | .sh d => some (d, st)
  | .ow d => some (d, st)
  | .at i => match st[i]? with
    | some (some (.sh d)) => some (d, st)
    | some (some (.ow d)) => some (d, st.set i (some (.sh d)))
    | _ => none
  | .any => none
section
variable {K : PySem.W.Frag} {W : Wd G} {P₀ P : PM} {H₀ H : Hp} {O : Addr → Option Tag} {σ : St} {st : Sl} {τ : List V} {ts : List S} {g : G} {v : V} {s : S} {d : D}
theorem Rep.rd1 (h : Sub P H) : ∀ {d : D} {v : V}, Rep K W P d v → Rd1 K W P H d v
  | .non, _, r => r
  | .bl _, _, r => r
  | .int _, _, r => r
  | .str _, _, r => r
  | .obj _, _, r => r
  | .tup _, _, r => r
  | .lst ds, v, r => by
    simp only [Rep] at r
    obtain ⟨a, xs, e, q, z, r⟩ := r
    exact ⟨a, xs, e, h _ _ q, z, r⟩
  | .dct kvs, v, r => by
    simp only [Rep] at r
    obtain ⟨a, o, ks, e, q, z, r⟩ := r
    exact ⟨a, o, ks, e, h _ _ q, z, r⟩
  | .dcn kvs, v, r => by
    simp only [Rep] at r
    obtain ⟨a, o, xs, e, q, z, r⟩ := r
    exact ⟨a, o, xs, e, h _ _ q, z, r⟩
theorem Own.rd1 {a : Addr} {o : HO} (h : H a = some o) : ∀ {d : D}, Own K W P a o d → Rd1 K W P H d (.ref a)
  | .lst ds, r => by
    obtain ⟨xs, rfl, z, r⟩ := r
    exact ⟨a, xs, rfl, h, z, r⟩
  | .dct kvs, r => by
    obtain ⟨ks, z, r⟩ := r
    exact ⟨a, o, ks, rfl, h, z.any, r⟩
  | .dcn kvs, r => by
    obtain ⟨xs, z, r⟩ := r
    exact ⟨a, o, xs, rfl, h, .inl z, r⟩
theorem SOk.rd1 {t : Tag} (hs : Sub P H) (h : SOk K W P O H σ t v s) (hn : ∀ i, s ≠ .at i) (hd : peek s st = some d) : Rd1 K W P H d v := by
  cases s with
  | sh e => cases hd; exact Rep.rd1 hs h
  | ow e =>
    cases hd
    obtain ⟨a, o, rfl, _, e2, r⟩ := h
    exact Own.rd1 e2 r
  | «at» i => exact absurd rfl (hn i)
  | any => cases hd
theorem RelB.slot (R : RelB K W P₀ H₀ P O σ st τ ts H g) {i : Nat} {s : S} (h : st[i]? = some (some s)) : ∃ v, σ[i]? = some (some v) ∧ (∀ j, s ≠ .at j) ∧ SOk K W P O H σ (.slot i) v s := R.slots i s h
/-- the value on top reads as what peek tells -/
theorem RelB.peekV (R : RelB K W P₀ H₀ P O σ st (v :: τ) (s :: ts) H g) (hd : peek s st = some d) : Rd1 K W P H d v := by
  have h : SOk K W P O H σ (.tmp τ.length) v s := R.temps.1
  cases s with
  | sh e => exact h.rd1 R.sub (fun _ q => nomatch q) hd
  | ow e => exact h.rd1 (st := st) R.sub (fun _ q => nomatch q) hd
  | any => cases hd
  | «at» i =>
    unfold peek at hd
    have hv : σ[i]? = some (some v) := h
    cases e : st[i]? with
    | none => simp [e] at hd
    | some x =>
      cases x with
      | none => simp [e] at hd
      | some y =>
        obtain ⟨v', e2, e3, q⟩ := R.slot e
        rw [hv] at e2; cases e2
        refine q.rd1 (st := st) R.sub e3 ?_
        cases y with
        | sh d' => simpa [e, peek] using hd
        | ow d' => simpa [e, peek] using hd
        | «at» j => exact absurd rfl (e3 j)
        | any => simp [e] at hd
theorem RelB.pop (R : RelB K W P₀ H₀ P O σ st (v :: τ) (s :: ts) H g) : RelB K W P₀ H₀ P O σ st τ ts H g :=
  { R with temps := R.temps.2 }
theorem RelB.pushS (R : RelB K W P₀ H₀ P O σ st τ ts H g) (h : SOk K W P O H σ (.tmp τ.length) v s) : RelB K W P₀ H₀ P O σ st (v :: τ) (s :: ts) H g :=
  { R with temps := ⟨h, R.temps⟩ }
theorem RelB.push (R : RelB K W P₀ H₀ P O σ st τ ts H g) (h : Rep K W P d v) : RelB K W P₀ H₀ P O σ st (v :: τ) (.sh d :: ts) H g := R.pushS h
theorem SOk.mono {P' : PM} {H' : Hp} {O' : Addr → Option Tag} {t : Tag} (hp : SubP P P') (hO : ∀ a, O a = some t → O' a = some t) (hH : ∀ a o, O a = some t → H a = some o → H' a = some o) : SOk K W P O H σ t v s → SOk K W P' O' H' σ t v s := by
  intro h
  cases s with
  | sh e => exact Rep.mono hp _ _ h
  | ow e =>
    obtain ⟨a, o, rfl, e1, e2, r⟩ := h
    refine ⟨a, o, rfl, hO a e1, hH a o e1 e2, ?_⟩
    cases e with
    | lst ds => obtain ⟨xs, e3, z, r⟩ := r; exact ⟨xs, e3, z, Reps.mono hp _ _ r⟩
    | dct kvs => obtain ⟨ks, z, r⟩ := r; exact ⟨ks, z, Repk.mono hp _ _ r⟩
    | dcn kvs => obtain ⟨xs, z, r⟩ := r; exact ⟨xs, z, Repn.mono hp _ _ r⟩
    | _ => exact r
  | «at» i => exact h
  | any => exact h
theorem TOk.mono {P' : PM} {H' : Hp} {O' : Addr → Option Tag} (hp : SubP P P') : ∀ {τ : List V} {ts : List S}, (∀ a i, i < τ.length → O a = some (.tmp i) → O' a = some (.tmp i)) → (∀ a o i, i < τ.length → O a = some (.tmp i) → H a = some o → H' a = some o) → TOk K W P O H σ τ ts → TOk K W P' O' H' σ τ ts
  | [], [], _, _, _ => trivial
  | v :: τ, s :: ts, hO, hH, h => ⟨SOk.mono hp (fun a q => hO a _ (Nat.lt_succ_self _) q) (fun a o q => hH a o _ (Nat.lt_succ_self _) q) h.1, TOk.mono hp (fun a i hi q => hO a i (Nat.lt_succ_of_lt hi) q) (fun a o i hi q => hH a o i (Nat.lt_succ_of_lt hi) q) h.2⟩
  | [], _ :: _, _, _, h => h.elim
  | _ :: _, [], _, _, h => h.elim
/-! ### code objects stay -/
theorem keep_new {H : Hp} {p : Addr} {x : HO} (hp : H p = none) : ∀ a o, H a = some o → Cod o → upd H p x a = some o := fun a o e _ => by rw [upd_ne (ne_of_none e hp)]; exact e
theorem keep_ne {H : Hp} {p : Addr} {x u : HO} (hp : H p = some u) (hu : ¬ Cod u) : ∀ a o, H a = some o → Cod o → upd H p x a = some o := fun a o e c => by
  by_cases h : a = p
  · subst h; rw [hp] at e; cases e; exact absurd c hu
  · rw [upd_ne h]; exact e
theorem cod_lst {xs : List V} : ¬ Cod (.lst xs) := fun ⟨c, q, e⟩ => by unfold LamX.CodeO at e; cases e
theorem cod_dK {kvs : List (Key × V)} : ¬ Cod (.dK kvs) := fun ⟨c, q, e⟩ => by unfold LamX.CodeO at e; cases e
theorem cod_nDict {w : World} {a : Addr} {xs : List (NestedKey × Addr × Value)} : ¬ Cod (nDictO w a xs) := fun ⟨c, q, e⟩ => by
  unfold LamX.CodeO nDictO at e
  injection e with e
  have key : ∀ b, b < max a c + 1 → ({ objs := Array.replicate (max a c + 1) { cls := .none, data := .fields #[.none, .str q 0] } } : Heap).get? b = some { cls := .none, data := .fields #[.none, .str q 0] } := fun b hb => by
    unfold Heap.get?
    simp [Array.getElem?_replicate, hb]
  have e2 := congrFun e ({ objs := Array.replicate (max a c + 1) { cls := .none, data := .fields #[.none, .str q 0] } } : Heap)
  obtain ⟨_, _, _, o, es, ep, h1, _, h2, _⟩ := e2.mpr ⟨_, #[.none, .str q 0], 0, key c (Nat.lt_succ_of_le (Nat.le_max_right a c)), rfl, rfl⟩
  rw [key a (Nat.lt_succ_of_le (Nat.le_max_left a c))] at h1
  cases h1
  cases h2
theorem Own.cod {K : PySem.W.Frag} {W : Wd G} {P : PM} {a : Addr} {o : HO} : ∀ {d : D}, Own K W P a o d → ¬ Cod o
  | .lst _, ⟨_, e, _⟩ => e ▸ cod_lst
  | .dct _, ⟨_, ⟨_, e, _⟩, _⟩ => e ▸ cod_dK
  | .dcn _, ⟨_, e, _⟩ => e ▸ cod_nDict
  | .bl _, h => h.elim
  | .int _, h => h.elim
  | .str _, h => h.elim
  | .non, h => h.elim
  | .tup _, h => h.elim
  | .obj _, h => h.elim
/-- a shared new thing is laid -/
theorem RelB.laid {p : Addr} {o : HO} (R : RelB K W P₀ H₀ P O σ st τ ts H g) (hp : H p = none) : RelB K W P₀ H₀ (updP P p o) O σ st τ ts (upd H p o) g := by
  have pn : P p = none := by
    cases e : P p with
    | none => rfl
    | some u => have := R.sub _ _ e; rw [hp] at this; cases this
  have nf : ¬ W.fp P.ob p := fun h => W.there g P H p R.wld h hp
  have sP : SubP P (updP P p o) := SubP.upd pn
  have sH : Sub H (upd H p o) := fun a u e => by rw [upd_ne (ne_of_none e hp)]; exact e
  refine ⟨fun a u e => ?_, fun a u e n => sH _ _ (R.base a u e n), R.p0.trans sP, fun a e => ?_, fun a e => ?_, R.fpn, fun a t e => ?_, ?_, R.len, fun i s e => ?_, ?_⟩
  · by_cases h : a = p
    · subst h; rw [updP_same] at e; rw [upd_same]; exact e
    · rw [updP_ne h] at e; rw [upd_ne h]; exact R.sub a u e
  · by_cases h : a = p
    · subst h
      right
      cases q : H₀ a with
      | none => rfl
      | some u => have := R.base a u q nf; rw [hp] at this; cases this
    · rw [updP_ne h] at e; exact R.new a e
  · by_cases h : a = p
    · subst h; exact nf
    · rw [updP_ne h] at e; exact R.nfp a e
  · obtain ⟨h1, h2, h3, h4⟩ := R.own a t e
    have ne : a ≠ p := fun q => h4 (q ▸ hp)
    exact ⟨by rw [updP_ne ne]; exact h1, h2, h3, by rw [upd_ne ne]; exact h4⟩
  · exact W.loc g P _ H _ R.wld sP.le rfl (fun a h => upd_ne fun q => nf (q ▸ h)) (keep_new hp)
  · obtain ⟨v, e1, e2, q⟩ := R.slots i s e
    exact ⟨v, e1, e2, q.mono sP (fun _ q => q) (fun a o _ q => sH _ _ q)⟩
  · exact R.temps.mono sP (fun _ _ _ q => q) (fun a o _ _ _ q => sH _ _ q)
theorem RelB.pn {p : Addr} (R : RelB K W P₀ H₀ P O σ st τ ts H g) (hp : H p = none) : P.hp p = none := by
  cases e : P p with
  | none => rfl
  | some u => have := R.sub _ _ e; rw [hp] at this; cases this
theorem RelB.sp {p : Addr} {o : HO} (R : RelB K W P₀ H₀ P O σ st τ ts H g) (hp : H p = none) : SubP P (updP P p o) := SubP.upd (R.pn hp)
/-- an own new thing is laid -/
theorem RelB.laidOwn {p : Addr} {o : HO} (R : RelB K W P₀ H₀ P O σ st τ ts H g) (hp : H p = none) (hd : Own K W P p o d) : ∃ O', RelB K W P₀ H₀ P O' σ st (.ref p :: τ) (.ow d :: ts) (upd H p o) g := by
  have pn : P p = none := by
    cases e : P p with
    | none => rfl
    | some u => have := R.sub _ _ e; rw [hp] at this; cases this
  have nf : ¬ W.fp P.ob p := fun h => W.there g P H p R.wld h hp
  have sH : Sub H (upd H p o) := fun a u e => by rw [upd_ne (ne_of_none e hp)]; exact e
  have On : O p = none := by
    cases e : O p with
    | none => rfl
    | some t => exact absurd hp (R.own p t e).2.2.2
  have h0 : H₀ p = none := by
    cases q : H₀ p with
    | none => rfl
    | some u => have := R.base p u q nf; rw [hp] at this; cases this
  have sO : ∀ a t, O a = some t → (if a = p then some (Tag.tmp τ.length) else O a) = some t := fun a t e => by
    rw [if_neg (fun q => by rw [q, On] at e; cases e)]; exact e
  refine ⟨fun a => if a = p then some (.tmp τ.length) else O a, ⟨fun a u e => sH _ _ (R.sub a u e), fun a u e n => sH _ _ (R.base a u e n), R.p0, R.new, R.nfp, R.fpn, fun a t e => ?_, ?_, R.len, fun i s e => ?_, ⟨?_, ?_⟩⟩⟩
  · by_cases h : a = p
    · subst h; exact ⟨pn, h0, nf, by rw [upd_same]; simp⟩
    · rw [if_neg h] at e
      obtain ⟨h1, h2, h3, h4⟩ := R.own a t e
      exact ⟨h1, h2, h3, by rw [upd_ne h]; exact h4⟩
  · exact W.loc g P P H _ R.wld (LeP.refl P) rfl (fun a h => upd_ne fun q => nf (q ▸ h)) (keep_new hp)
  · obtain ⟨v, e1, e2, q⟩ := R.slots i s e
    exact ⟨v, e1, e2, q.mono (SubP.refl P) (fun a q => sO a _ q) (fun a o _ q => sH _ _ q)⟩
  · exact ⟨p, o, rfl, if_pos rfl, upd_same, hd⟩
  · exact R.temps.mono (SubP.refl P) (fun a i _ q => sO a _ q) (fun a o _ _ _ q => sH _ _ q)
/-- an own thing becomes shared -/
theorem RelB.freeze {a : Addr} {o : HO} {t : Tag} (R : RelB K W P₀ H₀ P O σ st τ ts H g) (hO : O a = some t) (hH : H a = some o) (hs : ∀ i s, t = .slot i → st[i]? = some (some s) → ∀ d, s ≠ .ow d) (ht : ∀ i, t = .tmp i → τ.length ≤ i) :
    RelB K W P₀ H₀ (updP P a o) (fun b => if b = a then none else O b) σ st τ ts H g := by
  obtain ⟨pn, h0, nf, _⟩ := R.own a t hO
  have sP : SubP P (updP P a o) := SubP.upd pn
  refine ⟨fun b u e => ?_, R.base, R.p0.trans sP, fun b e => ?_, fun b e => ?_, R.fpn, fun b t' e => ?_, W.loc g P _ H H R.wld sP.le rfl (fun _ _ => rfl) (fun _ _ z _ => z), R.len, fun i s e => ?_, ?_⟩
  · by_cases h : b = a
    · subst h; rw [updP_same] at e; rw [hH]; exact e
    · rw [updP_ne h] at e; exact R.sub b u e
  · by_cases h : b = a
    · subst h; exact .inr h0
    · rw [updP_ne h] at e; exact R.new b e
  · by_cases h : b = a
    · subst h; exact nf
    · rw [updP_ne h] at e; exact R.nfp b e
  · by_cases h : b = a
    · subst h; rw [if_pos rfl] at e; cases e
    · rw [if_neg h] at e
      obtain ⟨h1, h2⟩ := R.own b t' e
      exact ⟨by rw [updP_ne h]; exact h1, h2⟩
  · obtain ⟨v, e1, e2, q⟩ := R.slots i s e
    refine ⟨v, e1, e2, ?_⟩
    cases s with
    | sh d => exact Rep.mono sP _ _ q
    | «at» j => exact q
    | any => exact q
    | ow d =>
      refine SOk.mono sP (fun b z => ?_) (fun _ _ _ z => z) q
      rw [if_neg fun y => ?_]
      · exact z
      · subst y; rw [hO] at z; exact hs i _ (Option.some.inj z) e d rfl
  · refine TOk.mono sP (fun b i hi z => ?_) (fun _ _ _ _ _ z => z) R.temps
    rw [if_neg fun y => ?_]
    · exact z
    · subst y; rw [hO] at z; exact absurd (ht i (Option.some.inj z)) (Nat.not_le_of_lt hi)
end
end DL
namespace DL
open PySem PySem.Spec L2
variable {G : Type}
section
variable {K : PySem.W.Frag} {W : Wd G} {P₀ P : PM} {H₀ H : Hp} {O : Addr → Option Tag} {σ : L2.St} {st st' : Sl} {τ : List V} {ts : List S} {g : G} {v : V} {s : S} {d : D}
/-- a value in hand becomes shared -/
theorem RelB.takeV (R : RelB K W P₀ H₀ P O σ st (v :: τ) (s :: ts) H g) (hd : take s st = some (d, st')) : ∃ P' O', RelB K W P₀ H₀ P' O' σ st' (v :: τ) (.sh d :: ts) H g := by
  have h : SOk K W P O H σ (.tmp τ.length) v s := R.temps.1
  have up : ∀ {a : Addr} {o : HO} {e : D}, v = .ref a → H a = some o → Own K W P a o e → P a = none → Rep K W (updP P a o) e v := by
    intro a o e ev eH q pn
    have sP : SubP P (updP P a o) := SubP.upd pn
    cases e with
    | lst ds =>
      obtain ⟨xs, rfl, zz, r⟩ := q
      simp only [Rep]
      exact ⟨a, xs, ev, upd_same, zz, Reps.mono sP _ _ r⟩
    | dct kvs =>
      obtain ⟨ks, z, r⟩ := q
      simp only [Rep]
      exact ⟨a, o, ks, ev, upd_same, z.any, Repk.mono sP _ _ r⟩
    | dcn kvs =>
      obtain ⟨xs, z, r⟩ := q
      simp only [Rep]
      exact ⟨a, o, xs, ev, upd_same, .inl z, Repn.mono sP _ _ r⟩
    | _ => exact q.elim
  cases s with
  | sh e => simp only [take, Option.some.injEq, Prod.mk.injEq] at hd; obtain ⟨rfl, rfl⟩ := hd; exact ⟨P, O, R⟩
  | ow e =>
    simp only [take, Option.some.injEq, Prod.mk.injEq] at hd; obtain ⟨rfl, rfl⟩ := hd
    obtain ⟨a, o, ev, eO, eH, q⟩ := h
    have pn := (R.own a _ eO).1
    have R' := R.pop.freeze eO eH (fun i s e => nomatch e) (fun i e => by cases e; exact Nat.le_refl _)
    exact ⟨_, _, R'.push (up ev eH q pn)⟩
  | any => cases hd
  | «at» i =>
    have hv : σ[i]? = some (some v) := h
    unfold take at hd
    cases e : st[i]? with
    | none => simp [e] at hd
    | some x =>
      cases x with
      | none => simp [e] at hd
      | some y =>
        obtain ⟨v', e2, e3, q⟩ := R.slot e
        rw [hv] at e2; cases e2
        cases y with
        | sh d' =>
          simp only [e, Option.some.injEq, Prod.mk.injEq] at hd; obtain ⟨rfl, rfl⟩ := hd
          exact ⟨P, O, R.pop.push q⟩
        | «at» j => exact absurd rfl (e3 j)
        | any => simp [e] at hd
        | ow d' =>
          simp only [e, Option.some.injEq, Prod.mk.injEq] at hd; obtain ⟨rfl, rfl⟩ := hd
          obtain ⟨a, o, ev, eO, eH, q⟩ := q
          have pn := (R.own a _ eO).1
          -- first forget that the slot owns it
          have hlt : i < st.length := by
            have := List.getElem?_eq_some_iff.mp e; exact this.1
          have R1 : RelB K W P₀ H₀ P O σ (st.set i none) (v :: τ) (.at i :: ts) H g := by
            refine { R with len := by rw [List.length_set]; exact R.len, slots := fun j s z => ?_ }
            by_cases hj : j = i
            · subst hj; rw [List.getElem?_set_self hlt] at z; cases z
            · rw [List.getElem?_set_ne (Ne.symm hj)] at z; exact R.slots j s z
          have R2 := R1.freeze eO eH (fun j s z y => by
            cases z; rw [List.getElem?_set_self hlt] at y; cases y) (fun j z => nomatch z)
          have rp := up ev eH q pn
          refine ⟨_, _, { R2 with len := by rw [List.length_set]; exact R.len, slots := fun j s z => ?_, temps := ⟨rp, R2.temps.2⟩ }⟩
          by_cases hj : j = i
          · subst hj
            rw [List.getElem?_set_self hlt] at z; cases z
            exact ⟨v, hv, (fun _ q => nomatch q), rp⟩
          · rw [List.getElem?_set_ne (Ne.symm hj)] at z
            exact R2.slots j s (by rw [List.getElem?_set_ne (Ne.symm hj)]; exact z)
def NoAt (ts : List S) : Prop := ∀ i, S.at i ∉ ts
theorem TOk.noAt {σ' : L2.St} : ∀ {τ : List V} {ts : List S}, NoAt ts → TOk K W P O H σ τ ts → TOk K W P O H σ' τ ts
  | [], [], _, h => h
  | v :: τ, s :: ts, n, h => by
    refine ⟨?_, TOk.noAt (fun i q => n i (List.mem_cons_of_mem _ q)) h.2⟩
    have h1 := h.1
    cases s with
    | sh e => exact h1
    | ow e => exact h1
    | any => exact h1
    | «at» i => exact absurd List.mem_cons_self (n i)
  | [], _ :: _, _, h => h.elim
  | _ :: _, [], _, h => h.elim
/-- a name is stored -/
theorem RelB.store {i : Nat} (R : RelB K W P₀ H₀ P O σ st (v :: τ) (s :: ts) H g) (hs : ∀ j, s ≠ .at j) (hs2 : s ≠ .any) (hn : NoAt ts) (hi : i < σ.length) : ∃ O', RelB K W P₀ H₀ P O' (σ.set i (some v)) (st.set i (some s)) τ ts H g := by
  have h : SOk K W P O H σ (.tmp τ.length) v s := R.temps.1
  have hl : i < st.length := by rw [R.len]; exact hi
  cases s with
  | «at» j => exact absurd rfl (hs j)
  | any => exact absurd rfl hs2
  | sh e =>
    refine ⟨O, { R with len := by simp [R.len], slots := fun j s z => ?_, temps := R.temps.2.noAt hn }⟩
    by_cases hj : j = i
    · subst hj
      rw [List.getElem?_set_self hl] at z; cases z
      exact ⟨v, List.getElem?_set_self hi, (fun _ q => nomatch q), h⟩
    · rw [List.getElem?_set_ne (Ne.symm hj)] at z
      obtain ⟨v', e1, e2, q⟩ := R.slots j s z
      refine ⟨v', by rw [List.getElem?_set_ne (Ne.symm hj)]; exact e1, e2, ?_⟩
      cases s with
      | sh _ => exact q
      | ow _ => exact q
      | any => exact q
      | «at» k => exact absurd rfl (e2 k)
  | ow e =>
    obtain ⟨a, o, ev, eO, eH, q⟩ := h
    have own := R.own a _ eO
    refine ⟨fun b => if b = a then some (.slot i) else O b, { R with own := fun b t z => ?_, len := by simp [R.len], slots := fun j s z => ?_, temps := ?_ }⟩
    · by_cases hb : b = a
      · subst hb; exact own
      · rw [if_neg hb] at z; exact R.own b t z
    · by_cases hj : j = i
      · subst hj
        rw [List.getElem?_set_self hl] at z; cases z
        exact ⟨v, List.getElem?_set_self hi, (fun _ q => nomatch q), a, o, ev, if_pos rfl, eH, q⟩
      · rw [List.getElem?_set_ne (Ne.symm hj)] at z
        obtain ⟨v', e1, e2, q⟩ := R.slots j s z
        refine ⟨v', by rw [List.getElem?_set_ne (Ne.symm hj)]; exact e1, e2, ?_⟩
        cases s with
        | sh _ => exact q
        | any => exact q
        | «at» k => exact absurd rfl (e2 k)
        | ow e' =>
          obtain ⟨b, o', ev', eO', eH', q'⟩ := q
          refine ⟨b, o', ev', (if_neg fun y => ?_).trans eO', eH', q'⟩
          subst y; rw [eO] at eO'; cases eO'
    · refine TOk.noAt hn (TOk.mono (SubP.refl P) (fun b k hk z => ?_) (fun _ _ _ _ _ z => z) R.temps.2)
      rw [if_neg fun y => ?_]
      · exact z
      · subst y; rw [eO] at z; cases z; exact absurd hk (Nat.lt_irrefl _)
/-- an own thing of slot i is changed -/
theorem RelB.write {i : Nat} {a : Addr} {o o' : HO} {d d' : D} (R : RelB K W P₀ H₀ P O σ st τ ts H g) (h : st[i]? = some (some (.ow d))) (hv : σ[i]? = some (some (.ref a))) (hd : Own K W P a o' d') :
    RelB K W P₀ H₀ P O σ (st.set i (some (.ow d'))) τ ts (upd H a o') g := by
  obtain ⟨v', e1, e2, a', o2, ev, eO, eH, q⟩ := R.slots i _ h
  rw [hv] at e1; cases e1; cases ev
  have own := R.own a _ eO
  have hl : i < st.length := (List.getElem?_eq_some_iff.mp h).1
  have ne : ∀ b t, O b = some t → t ≠ .slot i → b ≠ a := fun b t z ht y => by subst y; rw [eO] at z; exact ht (Option.some.inj z).symm
  refine { R with sub := fun b u z => ?_, base := fun b u z n => ?_, own := fun b t z => ?_, wld := ?_, len := by simp [R.len], slots := fun j s z => ?_, temps := ?_ }
  · rw [upd_ne (ne_of_none z own.1)]; exact R.sub b u z
  · rw [upd_ne (ne_of_none z own.2.1)]; exact R.base b u z n
  · obtain ⟨h1, h2, h3, h4⟩ := R.own b t z
    refine ⟨h1, h2, h3, ?_⟩
    by_cases hb : b = a
    · subst hb; rw [upd_same]; simp
    · rw [upd_ne hb]; exact h4
  · exact W.loc g P P H _ R.wld (LeP.refl P) rfl (fun b hb => upd_ne fun y => own.2.2.1 (y ▸ hb)) (keep_ne eH q.cod)
  · by_cases hj : j = i
    · subst hj
      rw [List.getElem?_set_self hl] at z; cases z
      exact ⟨_, hv, (fun _ q => nomatch q), a, o', rfl, eO, upd_same, hd⟩
    · rw [List.getElem?_set_ne (Ne.symm hj)] at z
      obtain ⟨v', e1, e2, q⟩ := R.slots j s z
      exact ⟨v', e1, e2, q.mono (SubP.refl P) (fun _ z => z) fun b u z w' => by
        rw [upd_ne (ne b _ z fun y => hj (by cases y; rfl))]; exact w'⟩
  · exact R.temps.mono (SubP.refl P) (fun _ _ _ z => z) fun b u k _ z w' => by
      rw [upd_ne (ne b _ z fun y => nomatch y)]; exact w'
end
/-! ### judgements over readings -/
/-- an expression's reading does f -/
def EvE (K : PySem.W.Frag) (W : Wd G) (t : TE) (f : M G S) : Prop :=
  ∀ (P₀ : PM) (H₀ : Hp) (σ : L2.St) (st : Sl) (τ : List V) (ts : List S) (H : Hp) (g : G) (r : S) (st' : Sl) (g' : G) (Q : VK),
    Rel K W P₀ H₀ σ st τ ts H g → f st g = some (r, st', g') → (∀ v H', Rel K W P₀ H₀ σ st' (v :: τ) (r :: ts) H' g' → Q v H') → t σ H Q
def EvT (K : PySem.W.Frag) (W : Wd G) (t : TT) (f : M G Bool) : Prop :=
  ∀ (P₀ : PM) (H₀ : Hp) (σ : L2.St) (st : Sl) (τ : List V) (ts : List S) (H : Hp) (g : G) (r : Bool) (st' : Sl) (g' : G) (Q : Bool → Hp → Prop),
    Rel K W P₀ H₀ σ st τ ts H g → f st g = some (r, st', g') → (∀ H', Rel K W P₀ H₀ σ st' τ ts H' g' → Q r H') → t σ H Q
/-- a family of contexts that differ in nothing that a proof looks at -/
structure CF where
  ι : Type
  X : ι → Cx
  prog : Program
  w : World
  K : PySem.W.Frag
  mg : Str → Option Value
  base : Heap
  N : List Str
  room : Nat
  hP : ∀ j, (X j).prog = prog
  hw : ∀ j, (X j).w = w
  hK : ∀ j, (X j).K = K
  hmg : ∀ j, (X j).mg = mg
  hbase : ∀ j, (X j).base = base
  hN : ∀ j, (X j).N = N
  nd : N.Nodup
  calm : ∀ j, (X j).calm = true
  hr : ∀ j, Room room (X j).A
  hgd : ∀ j, (X j).A.guards = some []
  xe : ∀ j, (X j).xe = fun _ _ => False
theorem CF.nd' (C : CF) (j : C.ι) : (C.X j).N.Nodup := by rw [C.hN j]; exact C.nd
theorem CF.un (C : CF) (j : C.ι) : (C.X j).A.units + 200 < cLine := by have := (C.hr j).un; omega
structure DE (C : CF) (Fam : Wd G → Prop) (e : Expr) (f : M G S) : Prop where
  ex : ∃ t, (∀ j, PE (C.X j) e t) ∧ ∀ W, Fam W → EvE C.K W t f
structure DT (C : CF) (Fam : Wd G → Prop) (e : Expr) (f : M G Bool) : Prop where
  ex : ∃ t, (∀ j, PT (C.X j) e t) ∧ ∀ W, Fam W → EvT C.K W t f
/-! ### names, constants -/
def mVar (i : Nat) : M G S := fun st g =>
  match st[i]? with
  | some (some (.sh d)) => some (.sh d, st, g)
  | some (some (.ow _)) => some (.at i, st, g)
  | _ => none
def mC (d : D) : M G S := fun st g => some (.sh d, st, g)
section
variable {C : CF} {Fam : Wd G → Prop}
theorem ev_var {K : PySem.W.Frag} {W : Wd G} (i : Nat) : EvE K W (tVar i) (mVar i) := by
  intro P₀ H₀ σ st τ ts H g r st' g' Q R h q
  obtain ⟨P, O, R⟩ := R
  unfold mVar at h
  cases e : st[i]? with
  | none => simp [e] at h
  | some x =>
    cases x with
    | none => simp [e] at h
    | some y =>
      obtain ⟨v, e1, e2, z⟩ := R.slot e
      refine ⟨v, e1, q v H ?_⟩
      cases y with
      | sh d =>
        simp only [e, Option.some.injEq, Prod.mk.injEq] at h; obtain ⟨rfl, rfl, rfl⟩ := h
        exact ⟨P, O, R.push z⟩
      | ow d =>
        simp only [e, Option.some.injEq, Prod.mk.injEq] at h; obtain ⟨rfl, rfl, rfl⟩ := h
        exact ⟨P, O, R.pushS e1⟩
      | «at» j => exact absurd rfl (e2 j)
      | any => simp [e] at h
theorem d_var (i : Nat) {x : Str} {pos : Pos} (hN : C.N[i]? = some x := by rfl) (hv : ∀ j, Vis (C.X j).env.scope x := by intro _; first | exact Or.inl rfl | exact Or.inr (Or.inl rfl) | exact Or.inr (Or.inr rfl)) (hd : (x == ("__debug__" : Str)) = false := by decide)
    (hcd : (x == ("__classdict__" : Str)) = false := by decide) : DE C Fam (.Name x pos) (mVar i) := ⟨_, fun j => pe_var (by rw [C.hN j]; exact hN) (hv j) hd hcd, fun _ _ => ev_var i⟩
theorem ev_c {K : PySem.W.Frag} {W : Wd G} {v : V} {d : D} (h : ∀ P, Rep K W P d v) : EvE K W (tC v) (mC d) := by
  intro P₀ H₀ σ st τ ts H g r st' g' Q R e q
  obtain ⟨P, O, R⟩ := R
  simp only [mC, Option.some.injEq, Prod.mk.injEq] at e; obtain ⟨rfl, rfl, rfl⟩ := e
  exact q v H ⟨P, O, R.push (h P)⟩
theorem d_int {i : Int} {j pos} : DE C Fam (.Constant (.int i) j pos) (mC (.int i)) := ⟨_, fun _ => pe_int, fun _ _ => ev_c fun _ => by simp [Rep]⟩
theorem d_bl {b : Bool} {j pos} : DE C Fam (.Constant (.bool b) j pos) (mC (.bl b)) := ⟨_, fun _ => pe_bl, fun _ _ => ev_c fun _ => by simp [Rep]⟩
theorem d_non {j pos} : DE C Fam (.Constant .none j pos) (mC .non) := ⟨_, fun _ => pe_non, fun _ _ => ev_c fun _ => by simp [Rep]⟩
theorem d_str {x : Str} {j pos} : DE C Fam (.Constant (.str x) j pos) (mC (.str x)) := ⟨_, fun _ => pe_str, fun _ _ => ev_c fun _ => by simp [Rep]⟩
/-! ### operators by values -/
def mOp (op : D → D → Option S) (fa fb : M G S) : M G S := fun st g =>
  bnd (fa st g) fun x st g => bnd (fb st g) fun y st g => (peek x st).bind fun dx => (peek y st).bind fun dy => (op dx dy).map fun z => (z, st, g)
def mUn (op : D → Option S) (fa : M G S) : M G S := fun st g =>
  bnd (fa st g) fun x st g => (peek x st).bind fun dx => (op dx).map fun z => (z, st, g)
/-- what comes of a value z: it lies in the heap H', of which R tells all -/
def B2 (K : PySem.W.Frag) (W : Wd G) (r : R2) (op : D → D → Option S) : Prop :=
  ∀ (P₀ : PM) (H₀ : Hp) (P : PM) (O : Addr → Option Tag) (σ : L2.St) (st : Sl) (τ : List V) (ts : List S) (H : Hp) (g : G) (x y : V) (dx dy : D) (z : S) (Q : VK),
    RelB K W P₀ H₀ P O σ st τ ts H g → Rd1 K W P H dx x → Rd1 K W P H dy y → op dx dy = some z → (∀ v H', Rel K W P₀ H₀ σ st (v :: τ) (z :: ts) H' g → Q v H') → r x y H Q
def B1 (K : PySem.W.Frag) (W : Wd G) (r : V → Hp → VK → Prop) (op : D → Option S) : Prop :=
  ∀ (P₀ : PM) (H₀ : Hp) (P : PM) (O : Addr → Option Tag) (σ : L2.St) (st : Sl) (τ : List V) (ts : List S) (H : Hp) (g : G) (x : V) (dx : D) (z : S) (Q : VK),
    RelB K W P₀ H₀ P O σ st τ ts H g → Rd1 K W P H dx x → op dx = some z → (∀ v H', Rel K W P₀ H₀ σ st (v :: τ) (z :: ts) H' g → Q v H') → r x H Q
theorem TOk.snd {K : PySem.W.Frag} {W : Wd G} {P : PM} {H : Hp} {O : Addr → Option Tag} {σ : L2.St} {x y : V} {sx sy : S} {τ : List V} {ts : List S} (h : TOk K W P O H σ (y :: x :: τ) (sy :: sx :: ts)) : SOk K W P O H σ (.tmp τ.length) x sx := h.2.1
theorem ev_op {K : PySem.W.Frag} {W : Wd G} {ta tb : TE} {fa fb : M G S} {r : R2} {op : D → D → Option S} (ha : EvE K W ta fa) (hb : EvE K W tb fb) (ho : B2 K W r op) : EvE K W (tOp r ta tb) (mOp op fa fb) := by
  intro P₀ H₀ σ st τ ts H g z st' g' Q R h q
  obtain ⟨x, st1, g1, e1, h⟩ := bnd_eq h
  obtain ⟨y, st2, g2, e2, h⟩ := bnd_eq h
  obtain ⟨dx, e3, h⟩ := Option.bind_eq_some_iff.mp h
  obtain ⟨dy, e4, h⟩ := Option.bind_eq_some_iff.mp h
  obtain ⟨z', e5, h⟩ := Option.map_eq_some_iff.mp h
  simp only [Prod.mk.injEq] at h; obtain ⟨rfl, rfl, rfl⟩ := h
  refine ha _ _ _ _ _ _ _ _ _ _ _ _ R e1 fun v1 H1 R1 => ?_
  refine hb _ _ _ _ _ _ _ _ _ _ _ _ R1 e2 fun v2 H2 R2 => ?_
  obtain ⟨P, O, R2⟩ := R2
  exact ho _ _ _ _ _ _ _ _ _ _ _ _ _ _ _ _ R2.pop.pop (R2.pop.peekV e3) (R2.peekV e4) e5 q
theorem ev_un {K : PySem.W.Frag} {W : Wd G} {ta : TE} {fa : M G S} {r : V → Hp → VK → Prop} {op : D → Option S} (ha : EvE K W ta fa) (ho : B1 K W r op) : EvE K W (tUn r ta) (mUn op fa) := by
  intro P₀ H₀ σ st τ ts H g z st' g' Q R h q
  obtain ⟨x, st1, g1, e1, h⟩ := bnd_eq h
  obtain ⟨dx, e3, h⟩ := Option.bind_eq_some_iff.mp h
  obtain ⟨z', e5, h⟩ := Option.map_eq_some_iff.mp h
  simp only [Prod.mk.injEq] at h; obtain ⟨rfl, rfl, rfl⟩ := h
  refine ha _ _ _ _ _ _ _ _ _ _ _ _ R e1 fun v1 H1 R1 => ?_
  obtain ⟨P, O, R1⟩ := R1
  exact ho _ _ _ _ _ _ _ _ _ _ _ _ _ _ R1.pop (R1.peekV e3) e5 q
variable {a b : Expr} {fa fb : M G S} {pos : Pos}
theorem d_op {op : Operator} {r : R2} {f : D → D → Option S} (ho : ∀ j, OpR (C.X j) (binaryOp op) r) (hf : ∀ W, Fam W → B2 C.K W r f) (ha : DE C Fam a fa) (hb : DE C Fam b fb) : DE C Fam (.BinOp a op b pos) (mOp f fa fb) := by
  obtain ⟨ta, pa, ea⟩ := ha.ex
  obtain ⟨tb, pb, eb⟩ := hb.ex
  exact ⟨_, fun j => pe_op (ho j) (pa j) (pb j), fun W h => ev_op (ea W h) (eb W h) (hf W h)⟩
theorem d_cmp {op : CmpOp} {r : R2} {f : D → D → Option S} (ho : ∀ j, OpR (C.X j) (compareOp op) r) (hf : ∀ W, Fam W → B2 C.K W r f) (ha : DE C Fam a fa) (hb : DE C Fam b fb) (hm : behindInMarks op b = false := by first | exact nobehind _ (by decide) (by decide) | rfl) : DE C Fam (.Compare a [op] [b] pos) (mOp f fa fb) := by
  obtain ⟨ta, pa, ea⟩ := ha.ex
  obtain ⟨tb, pb, eb⟩ := hb.ex
  exact ⟨_, fun j => pe_cmpR (ho j) (pa j) (pb j) hm, fun W h => ev_op (ea W h) (eb W h) (hf W h)⟩
theorem d_un {op : UnaryOp} {r : V → Hp → VK → Prop} {f : D → Option S} (ho : ∀ j, UnR (C.X j) (unaryOp op) r) (hf : ∀ W, Fam W → B1 C.K W r f) (ha : DE C Fam a fa) : DE C Fam (.UnaryOp op a pos) (mUn f fa) := by
  obtain ⟨ta, pa, ea⟩ := ha.ex
  exact ⟨_, fun j => pe_un (ho j) (pa j), fun W h => ev_un (ea W h) (hf W h)⟩
/-! ### tests -/
def mTest (f : M G S) : M G Bool := fun st g => bnd (f st g) fun x st g => match x with
  | .sh (.bl b) => some (b, st, g)
  | _ => none
theorem rep_bl {K : PySem.W.Frag} {W : Wd G} {P : PM} {b : Bool} {v : V} (h : Rep K W P (.bl b) v) : v = .bl b := by simpa only [Rep] using h
theorem ev_test {K : PySem.W.Frag} {W : Wd G} {ta : TE} {fa : M G S} (ha : EvE K W ta fa) : EvT K W (tB ta) (mTest fa) := by
  intro P₀ H₀ σ st τ ts H g z st' g' Q R h q
  obtain ⟨x, st1, g1, e1, h⟩ := bnd_eq h
  refine ha _ _ _ _ _ _ _ _ _ _ _ _ R e1 fun v1 H1 R1 => ?_
  cases x with
  | sh d =>
    cases d with
    | bl b =>
      simp only [Option.some.injEq, Prod.mk.injEq] at h; obtain ⟨rfl, rfl, rfl⟩ := h
      obtain ⟨P, O, R1⟩ := R1
      exact ⟨b, rep_bl (K := K) (W := W) (P := P) R1.temps.1, q H1 ⟨P, O, R1.pop⟩⟩
    | _ => cases h
  | _ => cases h
theorem d_test (ha : DE C Fam a fa) (he : ∀ j whole, isTrue a (C.X j).env whole = (do let v ← whole; standAt a.pos; holding [v] (truthy v)) := by intro _ _; rfl) : DT C Fam a (mTest fa) := by
  obtain ⟨ta, pa, ea⟩ := ha.ex
  exact ⟨_, fun j => pt_val (pa j) (he j), fun W h => ev_test (ea W h)⟩
theorem d_tcmp {op : CmpOp} {r : R2} {f : D → D → Option S} (ho : ∀ j, OpR (C.X j) (compareOp op) r) (hf : ∀ W, Fam W → B2 C.K W r f) (ha : DE C Fam a fa) (hb : DE C Fam b fb) (hm : behindInMarks op b = false := by first | exact nobehind _ (by decide) (by decide) | rfl) : DT C Fam (.Compare a [op] [b] pos) (mTest (mOp f fa fb)) := by
  obtain ⟨ta, pa, ea⟩ := ha.ex
  obtain ⟨tb, pb, eb⟩ := hb.ex
  exact ⟨_, fun j => pt_cmpR (ho j) (pa j) (pb j) hm, fun W h => ev_test (ev_op (ea W h) (eb W h) (hf W h))⟩
def mAnd (x y : M G Bool) : M G Bool := fun st g => bnd (x st g) fun b st g => if b = true then y st g else some (false, st, g)
def mOr (x y : M G Bool) : M G Bool := fun st g => bnd (x st g) fun b st g => if b = true then some (true, st, g) else y st g
def mNot (x : M G Bool) : M G Bool := fun st g => bnd (x st g) fun b st g => some (!b, st, g)
def mOfB (x : M G Bool) : M G S := fun st g => bnd (x st g) fun b st g => some (.sh (.bl b), st, g)
def mIf {α : Type} (c : M G Bool) (x y : M G α) : M G α := fun st g => bnd (c st g) fun b st g => if b = true then x st g else y st g
/-- a test, whatever its whole is -/
structure DW (C : CF) (Fam : Wd G → Prop) (e : Expr) (f : M G Bool) : Prop where
  ex : ∃ t, (∀ j, PW (C.X j) e t) ∧ ∀ W, Fam W → EvT C.K W t f
theorem DW.dt {e : Expr} {f : M G Bool} (h : DW C Fam e f) : DT C Fam e f := let ⟨t, p, q⟩ := h.ex; ⟨t, fun j => (p j).pt, q⟩
variable {x y : M G Bool} {rest : List Expr}
theorem w_or1 (ha : DT C Fam a x) : DW C Fam (.BoolOp .Or [a] pos) x := let ⟨t, p, q⟩ := ha.ex; ⟨t, fun j => pw_or1 (p j), q⟩
theorem w_or (ha : DT C Fam a x) (hb : DW C Fam (.BoolOp .Or (b :: rest) pos) y) : DW C Fam (.BoolOp .Or (a :: b :: rest) pos) (mOr x y) := by
  obtain ⟨ta, pa, ea⟩ := ha.ex
  obtain ⟨tb, pb, eb⟩ := hb.ex
  refine ⟨_, fun j => pw_or (pa j) (pb j), fun W hW => ?_⟩
  intro P₀ H₀ σ st τ ts H g z st' g' Q R h q
  obtain ⟨c, st1, g1, e1, h⟩ := bnd_eq h
  refine ea W hW _ _ _ _ _ _ _ _ _ _ _ _ R e1 fun H1 R1 => ?_
  cases c with
  | false => rw [if_neg (by simp)] at h ⊢; exact eb W hW _ _ _ _ _ _ _ _ _ _ _ _ R1 h q
  | true =>
    rw [if_pos rfl] at h ⊢
    simp only [Option.some.injEq, Prod.mk.injEq] at h; obtain ⟨rfl, rfl, rfl⟩ := h
    exact q H1 R1
theorem d_not (ha : DT C Fam a x) : DT C Fam (.UnaryOp .Not a pos) (mNot x) := by
  obtain ⟨ta, pa, ea⟩ := ha.ex
  refine ⟨_, fun j => pt_not (pa j), fun W hW => ?_⟩
  intro P₀ H₀ σ st τ ts H g z st' g' Q R h q
  obtain ⟨c, st1, g1, e1, h⟩ := bnd_eq h
  refine ea W hW _ _ _ _ _ _ _ _ _ _ _ _ R e1 fun H1 R1 => ?_
  simp only [Option.some.injEq, Prod.mk.injEq] at h; obtain ⟨rfl, rfl, rfl⟩ := h
  exact q H1 R1
/-! values of and, or, not where the parts are truths -/
def mAndV (f g : M G S) : M G S := mIf (mTest f) g (mC (.bl false))
def mOrV (f g : M G S) : M G S := mIf (mTest f) (mC (.bl true)) g
end
end DL
namespace DL
open PySem PySem.Spec L2
variable {G : Type}
section
variable {K : PySem.W.Frag} {W : Wd G} {P₀ P : PM} {H₀ H : Hp} {O : Addr → Option Tag} {σ : L2.St} {st st' : Sl} {τ : List V} {ts : List S} {g : G} {v : V} {s : S} {d : D}
theorem Reps.length : ∀ {ds : List D} {vs : List V}, Reps K W P ds vs → vs.length = ds.length
  | [], vs, h => by simp only [Reps] at h; subst h; rfl
  | d :: ds, vs, h => by
    simp only [Reps] at h
    obtain ⟨v, r, rfl, _, h2⟩ := h
    simp [Reps.length h2]
theorem Reps.get : ∀ {ds : List D} {vs : List V} {i : Nat} {d : D}, Reps K W P ds vs → ds[i]? = some d → ∃ v, vs[i]? = some v ∧ Rep K W P d v
  | [], vs, i, d, _, e => by simp at e
  | d :: ds, vs, 0, d', h, e => by
    simp only [Reps] at h
    obtain ⟨v, r, rfl, h1, h2⟩ := h
    simp at e; subst e
    exact ⟨v, by simp, h1⟩
  | d :: ds, vs, i + 1, d', h, e => by
    simp only [Reps] at h
    obtain ⟨v, r, rfl, h1, h2⟩ := h
    simp at e
    obtain ⟨w', e1, e2⟩ := Reps.get h2 e
    exact ⟨w', by simpa using e1, e2⟩
theorem Reps.append : ∀ {ds es : List D} {vs ws : List V}, Reps K W P ds vs → Reps K W P es ws → Reps K W P (ds ++ es) (vs ++ ws)
  | [], es, vs, ws, h, h2 => by simp only [Reps] at h; subst h; exact h2
  | d :: ds, es, vs, ws, h, h2 => by
    simp only [Reps] at h
    obtain ⟨v, r, rfl, h1, h3⟩ := h
    rw [List.cons_append, List.cons_append]
    simp only [Reps]
    exact ⟨v, r ++ ws, rfl, h1, Reps.append h3 h2⟩
theorem Reps.one {d : D} {v : V} (h : Rep K W P d v) : Reps K W P [d] [v] := by
  simp only [Reps]
  exact ⟨v, [], rfl, h, rfl⟩
theorem Reps.drop : ∀ {ds : List D} {vs : List V} (n : Nat), Reps K W P ds vs → Reps K W P (ds.drop n) (vs.drop n)
  | ds, vs, 0, h => h
  | [], vs, n + 1, h => by simp only [Reps] at h; subst h; simp [Reps]
  | d :: ds, vs, n + 1, h => by
    simp only [Reps] at h
    obtain ⟨v, r, rfl, h1, h3⟩ := h
    exact Reps.drop n h3
theorem Reps.take : ∀ {ds : List D} {vs : List V} (n : Nat), Reps K W P ds vs → Reps K W P (ds.take n) (vs.take n)
  | ds, vs, 0, h => by simp [Reps]
  | [], vs, n + 1, h => by simp only [Reps] at h; subst h; simp [Reps]
  | d :: ds, vs, n + 1, h => by
    simp only [Reps] at h
    obtain ⟨v, r, rfl, h1, h3⟩ := h
    rw [List.take_succ_cons, List.take_succ_cons]
    simp only [Reps]
    exact ⟨v, _, rfl, h1, Reps.take n h3⟩
theorem TOk.len : ∀ {τ : List V} {ts : List S}, TOk K W P O H σ τ ts → τ.length = ts.length
  | [], [], _ => rfl
  | _ :: _, _ :: _, h => by simp [TOk.len h.2]
  | [], _ :: _, h => h.elim
  | _ :: _, [], h => h.elim
theorem TOk.drop : ∀ {ρ τ : List V} {rs ts : List S}, ρ.length = rs.length → TOk K W P O H σ (ρ ++ τ) (rs ++ ts) → TOk K W P O H σ τ ts
  | [], τ, [], ts, _, h => h
  | v :: ρ, τ, s :: rs, ts, e, h => TOk.drop (by simpa using e) h.2
  | [], _, _ :: _, _, e, _ => by simp at e
  | _ :: _, _, [], _, e, _ => by simp at e
theorem RelB.drop {ρ : List V} {rs : List S} (R : RelB K W P₀ H₀ P O σ st (ρ ++ τ) (rs ++ ts) H g) (e : ρ.length = rs.length) : RelB K W P₀ H₀ P O σ st τ ts H g :=
  { R with temps := R.temps.drop e }
theorem Rel.drop {ρ : List V} {rs : List S} (R : Rel K W P₀ H₀ σ st (ρ ++ τ) (rs ++ ts) H g) (e : ρ.length = rs.length) : Rel K W P₀ H₀ σ st τ ts H g :=
  let ⟨P, O, R⟩ := R; ⟨P, O, R.drop e⟩
theorem Rel.pop (R : Rel K W P₀ H₀ σ st (v :: τ) (s :: ts) H g) : Rel K W P₀ H₀ σ st τ ts H g := let ⟨P, O, R⟩ := R; ⟨P, O, R.pop⟩
/-- the shared value on top stays when what lies below it is let go -/
theorem Rel.keepTop {ρ : List V} {rs : List S} (R : Rel K W P₀ H₀ σ st (v :: (ρ ++ τ)) (.sh d :: (rs ++ ts)) H g) (e : ρ.length = rs.length) : Rel K W P₀ H₀ σ st (v :: τ) (.sh d :: ts) H g := by
  obtain ⟨P, O, R⟩ := R
  exact ⟨P, O, (R.pop.drop e).push R.temps.1⟩
theorem NoAt.app {a b : List S} (h : NoAt a) (h2 : NoAt b) : NoAt (a ++ b) := fun i q => (List.mem_append.mp q).elim (h i) (h2 i)
end
/-! ### arguments -/
def EvA' (K : PySem.W.Frag) (W : Wd G) (t : TA) (f : M G (List D)) : Prop :=
  ∀ (P₀ : PM) (H₀ : Hp) (σ : L2.St) (st : Sl) (τ : List V) (ts : List S) (H : Hp) (g : G) (ds : List D) (st' : Sl) (g' : G) (Q : List V → Hp → Prop),
    Rel K W P₀ H₀ σ st τ ts H g → f st g = some (ds, st', g') → (∀ vs H' P O, RelB K W P₀ H₀ P O σ st' τ ts H' g' → Reps K W P ds vs → Q vs H') → t σ H Q
structure DAs (C : CF) (Fam : Wd G → Prop) (es : List Expr) (f : M G (List D)) : Prop where
  ex : ∃ t, (∀ j, PA (C.X j) es t) ∧ ∀ W, Fam W → EvA' C.K W t f
  len : ∀ st g ds st' g', f st g = some (ds, st', g') → ds.length = es.length
def mTake (f : M G S) : M G D := fun st g => bnd (f st g) fun x st g => (take x st).map fun p => (p.1, p.2, g)
def mNil : M G (List D) := fun st g => some ([], st, g)
def mCons (f : M G S) (r : M G (List D)) : M G (List D) := fun st g => bnd (mTake f st g) fun d st g => bnd (r st g) fun ds st g => some (d :: ds, st, g)
theorem mTake_eq {f : M G S} {st st' : Sl} {g g' : G} {d : D} (h : mTake f st g = some (d, st', g')) : ∃ x st1, f st g = some (x, st1, g') ∧ take x st1 = some (d, st') := by
  obtain ⟨x, st1, g1, e1, h⟩ := bnd_eq h
  obtain ⟨p, e2, h⟩ := Option.map_eq_some_iff.mp h
  simp only [Prod.mk.injEq] at h; obtain ⟨rfl, rfl, rfl⟩ := h
  exact ⟨x, st1, e1, e2⟩
section
variable {C : CF} {Fam : Wd G → Prop} {e : Expr} {es : List Expr} {pos : Pos}
theorem a_nil : DAs C Fam [] mNil := ⟨⟨_, fun _ => pa_nil, fun W hW P₀ H₀ σ st τ ts H g ds st' g' Q R h q => by
  simp only [mNil, Option.some.injEq, Prod.mk.injEq] at h; obtain ⟨rfl, rfl, rfl⟩ := h
  obtain ⟨P, O, R⟩ := R
  exact q [] H P O R (by simp [Reps])⟩, fun st g ds st' g' h => by
  simp only [mNil, Option.some.injEq, Prod.mk.injEq] at h; obtain ⟨rfl, rfl, rfl⟩ := h; rfl⟩
theorem a_cons {f : M G S} {r : M G (List D)} (he : DE C Fam e f) (hr : DAs C Fam es r) (hs : ∀ j, starEach (e :: es) (C.X j).env = (false, eval e (C.X j).env) :: starEach es (C.X j).env := by intro _; rfl) : DAs C Fam (e :: es) (mCons f r) := by
  obtain ⟨ta, pa, ea⟩ := he.ex
  obtain ⟨tb, pb, eb⟩ := hr.ex
  refine ⟨⟨_, fun j => pa_cons (pa j) (pb j) (hs j), fun W hW P₀ H₀ σ st τ ts H g ds st' g' Q R h q => ?_⟩, fun st g ds st' g' h => by
    obtain ⟨d, st1, g1, e1, h⟩ := bnd_eq h
    obtain ⟨ds', st2, g2, e2, h⟩ := bnd_eq h
    simp only [Option.some.injEq, Prod.mk.injEq] at h; obtain ⟨rfl, rfl, rfl⟩ := h
    rw [List.length_cons, List.length_cons, hr.len _ _ _ _ _ e2]⟩
  obtain ⟨d, st1, g1, e1, h⟩ := bnd_eq h
  obtain ⟨ds', st2, g2, e2, h⟩ := bnd_eq h
  simp only [Option.some.injEq, Prod.mk.injEq] at h; obtain ⟨rfl, rfl, rfl⟩ := h
  obtain ⟨x, st0, e3, e4⟩ := mTake_eq e1
  refine ea W hW _ _ _ _ _ _ _ _ _ _ _ _ R e3 fun v H1 R1 => ?_
  obtain ⟨P, O, R1⟩ := R1
  obtain ⟨P', O', R1⟩ := R1.takeV e4
  refine eb W hW _ _ _ _ _ _ _ _ _ _ _ _ ⟨P', O', R1⟩ e2 fun vs H2 P2 O2 R2 rp => ?_
  refine q (v :: vs) H2 P2 O2 R2.pop ?_
  simp only [Reps]
  exact ⟨v, vs, rfl, R2.temps.1, rp⟩
/-! tuples, lists -/
def mTup (f : M G (List D)) : M G S := fun st g => bnd (f st g) fun ds st g => if ds.length ≤ sizeLine then some (.sh (.tup ds), st, g) else none
def mLst (f : M G (List D)) : M G S := fun st g => bnd (f st g) fun ds st g => if ds.length ≤ sizeLine then some (.ow (.lst ds), st, g) else none
theorem d_tup {f : M G (List D)} {k : Nat} (h : DAs C Fam es f) : DE C Fam (.Tuple es k pos) (mTup f) := by
  obtain ⟨ta, pa, ea⟩ := h.ex
  refine ⟨_, fun j => DY.pe_tupF (pa j), fun W hW P₀ H₀ σ st τ ts H g r st' g' Q R h q => ?_⟩
  obtain ⟨ds, st1, g1, e1, h⟩ := bnd_eq h
  refine ea W hW _ _ _ _ _ _ _ _ _ _ _ _ R e1 fun vs H1 P O R1 rp => ?_
  split at h
  · rename_i hz
    simp only [Option.some.injEq, Prod.mk.injEq] at h; obtain ⟨rfl, rfl, rfl⟩ := h
    refine ⟨by rw [rp.length]; exact hz, fun p ob hp hd => q _ _ ⟨_, O, (R1.laid hp).push ?_⟩⟩
    simp only [Rep]
    refine ⟨p, vs, rfl, .new upd_same hd, hz, Reps.mono (R1.sp hp) _ _ rp⟩
  · cases h
theorem d_lst {f : M G (List D)} (h : DAs C Fam es f) : DE C Fam (.List es pos) (mLst f) := by
  obtain ⟨ta, pa, ea⟩ := h.ex
  refine ⟨_, fun j => pe_lst (pa j), fun W hW P₀ H₀ σ st τ ts H g r st' g' Q R h q => ?_⟩
  obtain ⟨ds, st1, g1, e1, h⟩ := bnd_eq h
  refine ea W hW _ _ _ _ _ _ _ _ _ _ _ _ R e1 fun vs H1 P O R1 rp => ?_
  split at h
  · rename_i hz
    simp only [Option.some.injEq, Prod.mk.injEq] at h; obtain ⟨rfl, rfl, rfl⟩ := h
    refine ⟨by rw [rp.length]; exact hz, fun p hp => ?_⟩
    obtain ⟨O', R2⟩ := R1.laidOwn (d := .lst ds) hp ⟨vs, rfl, hz, rp⟩
    exact q _ _ ⟨P, O', R2⟩
  · cases h
end
/-! ### the promise of a def -/
def Ent (W : Wd G) (P : PM) (H : Hp) (g : G) : Prop := Sub P H ∧ (∀ a, P a ≠ none → ¬ W.fp P.ob a) ∧ W.holds g P H
structure Out (W : Wd G) (P : PM) (H : Hp) (P' : PM) (H' : Hp) (g' : G) : Prop where
  pp : SubP P P'
  sub : Sub P' H'
  nfp : ∀ a, P' a ≠ none → ¬ W.fp P'.ob a
  new : ∀ a, P' a ≠ none → P a ≠ none ∨ H a = none
  fpn : ∀ a, W.fp P'.ob a → W.fp P.ob a ∨ H a = none
  same : ∀ a o, H a = some o → ¬ W.fp P'.ob a → H' a = some o
  wld : W.holds g' P' H'
abbrev Fn (G : Type) := List D → G → Option (D × G)
def spF (K : PySem.W.Frag) (Fam : Wd G → Prop) (n : Nat) (F : Fn G) : Sp := fun vs H Q _ =>
  ∃ (W : Wd G) (P : PM) (ds : List D) (g : G) (d : D) (g' : G), Fam W ∧ vs.length = n ∧ Ent W P H g ∧ Reps K W P ds vs ∧ F ds g = some (d, g') ∧
    ∀ v H' P', Out W P H P' H' g' → Rep K W P' d v → Q v H'
/-- the def x is there and does F, by level k -/
structure FD (P : Program) (w : World) (K : PySem.W.Frag) (mg : Str → Option Value) (base : Heap) (Fam : Wd G → Prop) (k : Nat) (x : Str) (n : Nat) (F : Fn G) : Prop where
  ex : ∃ f fd ps, DZ.FnG P w K mg base CX0 k f fd ps (spF K Fam n F) ∧ mg x = some (.ref f) ∧ PySem.W.keepIn K (.ref f) = true ∧ Binds K fd ps []
theorem FD.mono {P : Program} {w : World} {K : PySem.W.Frag} {mg : Str → Option Value} {base : Heap} {Fam : Wd G → Prop} {j k n : Nat} {x : Str} {F : Fn G} (h : FD P w K mg base Fam j x n F) (hk : j ≤ k) : FD P w K mg base Fam k x n F :=
  let ⟨f, fd, ps, a, b, c, d⟩ := h.ex; ⟨f, fd, ps, a.mono hk, b, c, d⟩
/-- what is told of less -/
theorem FD.imp {P : Program} {w : World} {K : PySem.W.Frag} {mg : Str → Option Value} {base : Heap} {Fam : Wd G → Prop} {k n : Nat} {x : Str} {F F' : Fn G} (h : FD P w K mg base Fam k x n F) (hF : ∀ ds g r, ds.length = n → F' ds g = some r → F ds g = some r) : FD P w K mg base Fam k x n F' := by
  obtain ⟨f, fd, ps, a, b, c, d⟩ := h.ex
  refine ⟨f, fd, ps, a.imp fun vs H Q E q => ?_, b, c, d⟩
  obtain ⟨W, P, ds, g, dd, g', h1, h2, h3, h4, h5, h6⟩ := q
  exact ⟨W, P, ds, g, dd, g', h1, h2, h3, h4, hF _ _ _ (by rw [← h4.length]; exact h2) h5, h6⟩
def mCall (F : Fn G) (fa : M G (List D)) : M G S := fun st g => bnd (fa st g) fun ds st g => (F ds g).map fun p => (.sh p.1, st, p.2)
section
variable {C : CF} {Fam : Wd G → Prop} {e : Expr} {es : List Expr} {pos p : Pos} {K : PySem.W.Frag} {W : Wd G} {P₀ P : PM} {H₀ H : Hp} {O : Addr → Option Tag} {σ : L2.St} {st st' : Sl} {τ : List V} {ts : List S} {g g' : G} {v : V} {d : D}
theorem RelB.ent (R : RelB K W P₀ H₀ P O σ st τ ts H g) : Ent W P H g := ⟨R.sub, R.nfp, R.wld⟩
theorem RelB.out {P' : PM} {H' : Hp} (R : RelB K W P₀ H₀ P O σ st τ ts H g) (o : Out W P H P' H' g') : RelB K W P₀ H₀ P' O σ st τ ts H' g' := by
  have nm : ∀ a, ¬ W.fp P'.ob a → ¬ W.fp P.ob a := fun a h z => h (W.mono _ _ a o.pp.2 z)
  have keep : ∀ a u, H a = some u → ¬ W.fp P.ob a → H' a = some u := fun a u h n => o.same a u h fun z => by
    rcases o.fpn a z with z | z
    · exact n z
    · rw [h] at z; cases z
  refine ⟨o.sub, fun a u e n => keep a u (R.base a u e (nm a n)) (nm a n), R.p0.trans o.pp, fun a e => ?_, o.nfp, fun a e => ?_, fun a t e => ?_, o.wld, R.len, fun i s e => ?_, ?_⟩
  · rcases o.new a e with h | h
    · exact R.new a h
    · right
      cases q : H₀ a with
      | none => rfl
      | some u => have := R.base a u q (nm a (o.nfp a e)); rw [h] at this; cases this
  · rcases o.fpn a e with h | h
    · exact R.fpn a h
    · by_cases z : W.fp P.ob a
      · exact R.fpn a z
      · right
        cases q : H₀ a with
        | none => rfl
        | some u => have := R.base a u q z; rw [h] at this; cases this
  · obtain ⟨h1, h2, h3, h4⟩ := R.own a t e
    refine ⟨?_, h2, fun z => ?_, ?_⟩
    · cases q : P' a with
      | none => rfl
      | some u =>
        rcases o.new a (by rw [q]; simp) with h | h
        · exact absurd h1 h
        · exact absurd h h4
    · rcases o.fpn a z with z | z
      · exact h3 z
      · exact h4 z
    · cases q : H a with
      | none => exact absurd q h4
      | some u => rw [keep a u q h3]; simp
  · obtain ⟨v, e1, e2, q⟩ := R.slots i s e
    exact ⟨v, e1, e2, q.mono o.pp (fun _ z => z) fun a u z y => keep a u y (R.own a _ z).2.2.1⟩
  · exact R.temps.mono o.pp (fun _ _ _ z => z) fun a u k _ z y => keep a u y (R.own a _ z).2.2.1
theorem d_call {x : Str} {k n : Nat} {F : Fn G} {fa : M G (List D)} (h : FD C.prog C.w C.K C.mg C.base Fam k x n F) (ha : DAs C Fam (e :: es) fa) (hk : k ≤ C.room := by decide) (hg : ∀ j, Gl (C.X j) x := by intro _; rfl) (hn : (e :: es).length = n := by rfl) (hdb : (x == ("__debug__" : Str)) = false := by decide)
    (he : ∀ j, starEach (e :: es) (C.X j).env = (false, eval e (C.X j).env) :: starEach es (C.X j).env := by intro _; rfl) (hpl : ∀ j, (backTo pos (starEach es (C.X j).env)).any (·.1) = false := by intro _; rfl) :
    DE C Fam (.Call (.Name x p) (e :: es) [] pos) (mCall F fa) := by
  obtain ⟨f, fd, ps, a, b, c, dd⟩ := h.ex
  obtain ⟨ta, pa, ea⟩ := ha.ex
  refine ⟨_, fun j => DZ.pe_callG (by rw [C.hP, C.hw, C.hK, C.hmg, C.hbase]; exact a) ((C.hr j).mono hk) (C.hgd j) (hg j) (by rw [C.hmg]; exact b) (by rw [C.hK]; exact c) (by rw [C.hK]; exact dd) (pass0 (X := C.X j)) (pa j) hdb (he j) (hpl j), fun W hW P₀ H₀ σ st τ ts H g r st' g' Q R h q => ?_⟩
  obtain ⟨ds, st1, g1, e1, h⟩ := bnd_eq h
  obtain ⟨⟨d, g2⟩, e2, h⟩ := Option.map_eq_some_iff.mp h
  simp only [Prod.mk.injEq] at h; obtain ⟨rfl, rfl, rfl⟩ := h
  refine ea W hW _ _ _ _ _ _ _ _ _ _ _ _ R e1 fun vs H1 P O R1 rp => ?_
  have hlen := (ha.len _ _ _ _ _ e1).trans hn
  exact ⟨W, P, ds, g1, d, g2, hW, by rw [rp.length]; exact hlen, R1.ent, rp, e2, fun v H' P' o rv => q v H' ⟨P', O, (R1.out o).push rv⟩⟩
end
end DL
namespace DL
open PySem PySem.Spec L2
variable {G : Type}
/-! ### statements -/
inductive Fl where
  | nx | rt (d : D) | bk | ct
def EndOk (K : PySem.W.Frag) (W : Wd G) (P₀ : PM) (H₀ : Hp) (τ : List V) (ts : List S) (E : Ends) (st' : Sl) (g' : G) : Fl → Prop
  | .nx => ∀ σ' H', Rel K W P₀ H₀ σ' st' τ ts H' g' → E.nx σ' H'
  | .rt d => ∀ σ' v H', Rel K W P₀ H₀ σ' st' (v :: τ) (.sh d :: ts) H' g' → E.rt v H'
  | .bk => ∀ σ' H', Rel K W P₀ H₀ σ' st' τ ts H' g' → E.bk σ' H'
  | .ct => ∀ σ' H', Rel K W P₀ H₀ σ' st' τ ts H' g' → E.ct σ' H'
def EvS (K : PySem.W.Frag) (W : Wd G) (t : TS) (f : M G Fl) : Prop :=
  ∀ (P₀ : PM) (H₀ : Hp) (σ : L2.St) (st : Sl) (τ : List V) (ts : List S) (H : Hp) (g : G) (fl : Fl) (st' : Sl) (g' : G) (E : Ends),
    NoAt ts → Rel K W P₀ H₀ σ st τ ts H g → f st g = some (fl, st', g') → EndOk K W P₀ H₀ τ ts E st' g' fl → t E σ H
structure DS (C : CF) (Fam : Wd G → Prop) (st : Stmt) (f : M G Fl) : Prop where
  ex : ∃ t, (∀ j, PS (C.X j) st t) ∧ ∀ W, Fam W → EvS C.K W t f
structure DSs (C : CF) (Fam : Wd G → Prop) (st : List Stmt) (f : M G Fl) : Prop where
  ex : ∃ t, (∀ j, PSs (C.X j) st t) ∧ ∀ W, Fam W → EvS C.K W t f
def mNext : M G Fl := fun st g => some (.nx, st, g)
def mSeq (a b : M G Fl) : M G Fl := fun st g => bnd (a st g) fun fl st g => match fl with
  | .nx => b st g
  | .rt d => some (.rt d, st, g)
  | .bk => some (.bk, st, g)
  | .ct => some (.ct, st, g)
def mRet (f : M G S) : M G Fl := fun st g => bnd (mTake f st g) fun d st g => some (.rt d, st, g)
def mDrop (f : M G S) : M G Fl := fun st g => bnd (f st g) fun _ st g => some (.nx, st, g)
/-- x = e -/
def mSet (i : Nat) (f : M G S) : M G Fl := fun st g => bnd (f st g) fun x st g => if i < st.length then
    (match x with
    | .sh d => some (.nx, st.set i (some (.sh d)), g)
    | .ow d => some (.nx, st.set i (some (.ow d)), g)
    | .at j => (take (.at j) st).map fun p => (.nx, p.2.set i (some (.sh p.1)), g)
    | .any => none)
  else none
section
variable {C : CF} {Fam : Wd G → Prop} {e : Expr} {es : List Expr} {pos : Pos} {s1 : Stmt} {rest : List Stmt} {a b : M G Fl}
theorem s_nil : DSs C Fam [] mNext := ⟨_, fun _ => pss_nil, fun W hW P₀ H₀ σ st τ ts H g fl st' g' E n R h q => by
  simp only [mNext, Option.some.injEq, Prod.mk.injEq] at h; obtain ⟨rfl, rfl, rfl⟩ := h
  exact q _ _ R⟩
theorem ev_seq {K : PySem.W.Frag} {W : Wd G} {t u : TS} (ha : EvS K W t a) (hb : EvS K W u b) : EvS K W (tSeq t u) (mSeq a b) := by
  intro P₀ H₀ σ st τ ts H g fl st' g' E n R h q
  obtain ⟨f1, st1, g1, e1, h⟩ := bnd_eq h
  refine ha _ _ _ _ _ _ _ _ _ _ _ _ n R e1 ?_
  cases f1 with
  | nx => exact fun σ' H' R' => hb _ _ _ _ _ _ _ _ _ _ _ _ n R' h q
  | rt d => simp only [Option.some.injEq, Prod.mk.injEq] at h; obtain ⟨rfl, rfl, rfl⟩ := h; exact q
  | bk => simp only [Option.some.injEq, Prod.mk.injEq] at h; obtain ⟨rfl, rfl, rfl⟩ := h; exact q
  | ct => simp only [Option.some.injEq, Prod.mk.injEq] at h; obtain ⟨rfl, rfl, rfl⟩ := h; exact q
theorem s_cons (h1 : DS C Fam s1 a) (h2 : DSs C Fam rest b) : DSs C Fam (s1 :: rest) (mSeq a b) := by
  obtain ⟨ta, pa, ea⟩ := h1.ex
  obtain ⟨tb, pb, eb⟩ := h2.ex
  exact ⟨_, fun j => pss_cons (pa j) (pb j), fun W hW => ev_seq (ea W hW) (eb W hW)⟩
theorem s_one (h1 : DS C Fam s1 a) : DSs C Fam [s1] a := by
  obtain ⟨ta, pa, ea⟩ := h1.ex
  exact ⟨_, fun j => pss_one (pa j), ea⟩
theorem d_ret {f : M G S} (he : DE C Fam e f) : DS C Fam (.Return (some e) pos) (mRet f) := by
  obtain ⟨ta, pa, ea⟩ := he.ex
  refine ⟨_, fun j => ps_ret (pa j), fun W hW P₀ H₀ σ st τ ts H g fl st' g' E n R h q => ?_⟩
  obtain ⟨d, st1, g1, e1, h⟩ := bnd_eq h
  simp only [Option.some.injEq, Prod.mk.injEq] at h; obtain ⟨rfl, rfl, rfl⟩ := h
  obtain ⟨x, st0, e3, e4⟩ := mTake_eq e1
  refine ea W hW _ _ _ _ _ _ _ _ _ _ _ _ R e3 fun v H1 R1 => ?_
  obtain ⟨P, O, R1⟩ := R1
  obtain ⟨P', O', R1⟩ := R1.takeV e4
  exact q σ v H1 ⟨P', O', R1⟩
theorem d_expr {f : M G S} (he : DE C Fam e f) (hs : ∀ j, swapsWith e none pos.line (C.X j).env = pure false := by intro _; rfl) : DS C Fam (.Expr e pos) (mDrop f) := by
  obtain ⟨ta, pa, ea⟩ := he.ex
  refine ⟨_, fun j => ps_expr (pa j) (hs j), fun W hW P₀ H₀ σ st τ ts H g fl st' g' E n R h q => ?_⟩
  obtain ⟨d, st1, g1, e1, h⟩ := bnd_eq h
  simp only [Option.some.injEq, Prod.mk.injEq] at h; obtain ⟨rfl, rfl, rfl⟩ := h
  exact ea W hW _ _ _ _ _ _ _ _ _ _ _ _ R e1 fun v H1 R1 => q σ H1 R1.pop
theorem d_if {c : Expr} {x : M G Bool} {s2 s3 : List Stmt} (hc : DT C Fam c x) (ha : DSs C Fam s2 a) (hb : DSs C Fam s3 b) : DS C Fam (.If c s2 s3 pos) (mIf x a b) := by
  obtain ⟨tc, pc, ec⟩ := hc.ex
  obtain ⟨ta, pa, ea⟩ := ha.ex
  obtain ⟨tb, pb, eb⟩ := hb.ex
  refine ⟨_, fun j => ps_if (pc j) (pa j) (pb j), fun W hW P₀ H₀ σ st τ ts H g fl st' g' E n R h q => ?_⟩
  obtain ⟨c, st1, g1, e1, h⟩ := bnd_eq h
  refine ec W hW _ _ _ _ _ _ _ _ _ _ _ _ R e1 fun H1 R1 => ?_
  cases c with
  | true => rw [if_pos rfl] at h ⊢; exact ea W hW _ _ _ _ _ _ _ _ _ _ _ _ n R1 h q
  | false => rw [if_neg (by simp)] at h ⊢; exact eb W hW _ _ _ _ _ _ _ _ _ _ _ _ n R1 h q
theorem ev_set {K : PySem.W.Frag} {W : Wd G} {te : TE} {f : M G S} {i : Nat} (ea : EvE K W te f) : EvS K W (tAsg te (gName i)) (mSet i f) := by
  intro P₀ H₀ σ st τ ts H g fl st' g' E n R h q
  obtain ⟨x, st1, g1, e1, h⟩ := bnd_eq h
  refine ea _ _ _ _ _ _ _ _ _ _ _ _ R e1 fun v H1 R1 => ?_
  obtain ⟨P, O, R1⟩ := R1
  split at h
  · rename_i hi
    rw [R1.len] at hi
    cases x with
    | sh d =>
      simp only [Option.some.injEq, Prod.mk.injEq] at h; obtain ⟨rfl, rfl, rfl⟩ := h
      obtain ⟨O', R2⟩ := R1.store (fun j z => nomatch z) (fun z => nomatch z) n hi
      exact q _ _ ⟨P, O', R2⟩
    | ow d =>
      simp only [Option.some.injEq, Prod.mk.injEq] at h; obtain ⟨rfl, rfl, rfl⟩ := h
      obtain ⟨O', R2⟩ := R1.store (fun j z => nomatch z) (fun z => nomatch z) n hi
      exact q _ _ ⟨P, O', R2⟩
    | any => cases h
    | «at» j =>
      obtain ⟨⟨d, st2⟩, e2, h⟩ := Option.map_eq_some_iff.mp h
      simp only [Prod.mk.injEq] at h; obtain ⟨rfl, rfl, rfl⟩ := h
      obtain ⟨P', O', R1⟩ := R1.takeV e2
      obtain ⟨O', R2⟩ := R1.store (fun j z => nomatch z) (fun z => nomatch z) n hi
      exact q _ _ ⟨P', O', R2⟩
  · cases h
theorem d_set (i : Nat) {x : Str} {f : M G S} {pos' : Pos} (he : DE C Fam e f) (hi : C.N[i]? = some x := by rfl) (hx : ∀ j, Loc (C.X j).env.scope x := by intro _; first | exact Or.inl rfl | exact Or.inr rfl) (hs : ∀ j, swapsWith e (some (.Name x pos')) pos.line (C.X j).env = pure false := by intro _; rfl)
    (hf : ∀ j, (C.X j).fn x = true ∨ (C.X j).env.scope.names.lookup x = some .local := by intro _; first | exact .inl rfl | exact .inr rfl) : DS C Fam (.Assign [.Name x pos'] e pos) (mSet i f) := by
  obtain ⟨ta, pa, ea⟩ := he.ex
  exact ⟨_, fun j => ps_set (C.nd' j) (by rw [C.hN j]; exact hi) (hx j) (pa j) (hs j) (hf j), fun W hW => ev_set (ea W hW)⟩
end
/-! ### targets -/
inductive Pt where
  | nm (i : Nat) | tp (ps : List Pt)
mutual
def Pt.ix : Pt → List Nat
  | .nm i => [i]
  | .tp ps => Pt.ixs ps
def Pt.ixs : List Pt → List Nat
  | [] => []
  | p :: ps => p.ix ++ Pt.ixs ps
end
def Pt.isTp : Pt → Bool
  | .nm _ => false
  | .tp _ => true
mutual
def asg : Pt → D → Sl → Option Sl
  | .nm i, d, st => if i < st.length then some (st.set i (some (.sh d))) else none
  | .tp ps, d, st => match d with
    | .tup ds => asgs ps ds st
    | _ => none
def asgs : List Pt → List D → Sl → Option Sl
  | [], [], st => some st
  | p :: ps, d :: ds, st => (asg p d st).bind fun st => asgs ps ds st
  | _, _, _ => none
end
def EvG (K : PySem.W.Frag) (W : Wd G) (t : TG) (p : Pt) : Prop :=
  ∀ (P₀ : PM) (H₀ : Hp) (P : PM) (O : Addr → Option Tag) (σ : L2.St) (st : Sl) (τ : List V) (ts : List S) (H : Hp) (g : G) (d : D) (v : V) (st' : Sl) (Q : L2.St → Hp → Prop) (A : Bool),
    (A = true → p.isTp = true) → NoAt ts → RelB K W P₀ H₀ P O σ st τ ts H g → RepF K W P A d v → asg p d st = some st' →
    (∀ σ', (∀ vs, (∀ i ∈ p.ix, i ∈ vs) → wipe σ' vs = wipe σ vs) → RelB K W P₀ H₀ P O σ' st' τ ts H g → Q σ' H) → t v σ H Q
def EvGs (K : PySem.W.Frag) (W : Wd G) (t : TGs) (ps : List Pt) : Prop :=
  ∀ (P₀ : PM) (H₀ : Hp) (P : PM) (O : Addr → Option Tag) (σ : L2.St) (st : Sl) (τ : List V) (ts : List S) (H : Hp) (g : G) (ds : List D) (vs : List V) (st' : Sl) (Q : L2.St → Hp → Prop),
    NoAt ts → RelB K W P₀ H₀ P O σ st τ ts H g → Reps K W P ds vs → asgs ps ds st = some st' →
    (∀ σ', (∀ vs, (∀ i ∈ Pt.ixs ps, i ∈ vs) → wipe σ' vs = wipe σ vs) → RelB K W P₀ H₀ P O σ' st' τ ts H g → Q σ' H) → t vs σ H Q
theorem wipe_set (σ : L2.St) (i : Nat) (x : Option V) : ∀ (vs : List Nat), i ∈ vs → wipe (σ.set i x) vs = wipe σ vs
  | [], h => by cases h
  | v :: vs, h => by
    by_cases e : v = i
    · subst e
      have : ∀ (us : List Nat) (σ : L2.St), (wipe (σ.set v x) us).set v none = (wipe σ us).set v none := by
        intro us
        induction us with
        | nil => intro σ; simp [wipe]
        | cons u us ih =>
          intro σ
          simp only [wipe]
          by_cases e : u = v
          · subst e; simp; exact ih σ
          · rw [List.set_comm _ _ e, ih, List.set_comm _ _ (Ne.symm e)]
      exact this vs σ
    · simp only [wipe]
      rw [wipe_set σ i x vs ((List.mem_cons.mp h).resolve_left (fun q => e q.symm))]
theorem RelB.setSh {K : PySem.W.Frag} {W : Wd G} {P₀ P : PM} {H₀ H : Hp} {O : Addr → Option Tag} {σ : L2.St} {st : Sl} {τ : List V} {ts : List S} {g : G} {v : V} {d : D} {i : Nat} (R : RelB K W P₀ H₀ P O σ st τ ts H g) (n : NoAt ts) (h : Rep K W P d v) (hi : i < σ.length) :
    RelB K W P₀ H₀ P O (σ.set i (some v)) (st.set i (some (.sh d))) τ ts H g := by
  have hl : i < st.length := by rw [R.len]; exact hi
  refine { R with len := by simp [R.len], slots := fun j s z => ?_, temps := R.temps.noAt n }
  by_cases hj : j = i
  · subst hj
    rw [List.getElem?_set_self hl] at z; cases z
    exact ⟨v, List.getElem?_set_self hi, (fun _ q => nomatch q), h⟩
  · rw [List.getElem?_set_ne (Ne.symm hj)] at z
    obtain ⟨v', e1, e2, q⟩ := R.slots j s z
    refine ⟨v', by rw [List.getElem?_set_ne (Ne.symm hj)]; exact e1, e2, ?_⟩
    cases s with
    | sh _ => exact q
    | ow _ => exact q
    | any => exact q
    | «at» k => exact absurd rfl (e2 k)
structure DG (C : CF) (tg : Expr) (p : Pt) : Prop where
  ex : ∃ t, (∀ j, PG (C.X j) tg t) ∧ ∀ (G : Type) (W : Wd G), EvG C.K W t p
structure DGs (C : CF) (tg : List Expr) (ps : List Pt) : Prop where
  ex : ∃ t, (∀ j, PGs (C.X j) tg t) ∧ ∀ (G : Type) (W : Wd G), EvGs C.K W t ps
section
variable {C : CF} {pos : Pos}
theorem g_name (i : Nat) {x : Str} (hi : C.N[i]? = some x := by rfl) (hx : ∀ j, Loc (C.X j).env.scope x := by intro _; first | exact Or.inl rfl | exact Or.inr rfl) (hf : ∀ j, (C.X j).fn x = true ∨ (C.X j).env.scope.names.lookup x = some .local := by intro _; first | exact .inl rfl | exact .inr rfl) : DG C (.Name x pos) (.nm i) :=
  ⟨_, fun j => pg_name (C.nd' j) (by rw [C.hN j]; exact hi) (hx j) (hf j), fun G W P₀ H₀ P O σ st τ ts H g d v st' Q A hA n R r h q => by
    have hA2 : A = false := by
      cases A with
      | false => rfl
      | true => exact absurd (hA rfl) (by simp [Pt.isTp])
    subst hA2
    simp only [asg] at h
    split at h
    · rename_i hl
      cases h
      exact q _ (fun vs hv => wipe_set σ i _ vs (hv i (by simp [Pt.ix]))) (R.setSh n (by simpa [RepF] using r) (by rw [← R.len]; exact hl))
    · cases h⟩
theorem gs_nil : DGs C [] [] := ⟨_, fun _ => pgs_nil, fun G W P₀ H₀ P O σ st τ ts H g ds vs st' Q n R r h q => by
  cases ds with
  | nil =>
    simp only [Reps] at r; subst r
    simp only [asgs, Option.some.injEq] at h; subst h
    exact ⟨rfl, q σ (fun _ _ => rfl) R⟩
  | cons d ds => simp [asgs] at h⟩
theorem gs_cons {e : Expr} {es : List Expr} {p : Pt} {ps : List Pt} (h1 : DG C e p) (h2 : DGs C es ps) (hs : ∀ j, (assignEach (e :: es) (C.X j).env).map (·.2) = assign e (C.X j).env :: (assignEach es (C.X j).env).map (·.2) := by intro _; rfl) : DGs C (e :: es) (p :: ps) := by
  obtain ⟨ta, pa, ea⟩ := h1.ex
  obtain ⟨tb, pb, eb⟩ := h2.ex
  refine ⟨_, fun j => pgs_cons (pa j) (pb j) (hs j), fun G W P₀ H₀ P O σ st τ ts H g ds vs st' Q n R r h q => ?_⟩
  cases ds with
  | nil => simp [asgs] at h
  | cons d ds =>
    simp only [Reps] at r
    obtain ⟨v, r', rfl, r1, r2⟩ := r
    simp only [asgs] at h
    obtain ⟨st1, e1, h⟩ := Option.bind_eq_some_iff.mp h
    refine ⟨v, r', rfl, ea G W _ _ _ _ _ _ _ _ _ _ _ _ _ _ false (fun z => nomatch z) n R (by simpa [RepF] using r1) e1 fun σ' w1 R1 => ?_⟩
    refine eb G W _ _ _ _ _ _ _ _ _ _ _ _ _ _ n R1 r2 h fun σ2 w2 R2 => q σ2 (fun vs hv => ?_) R2
    rw [w2 vs fun i hi => hv i (by simp [Pt.ixs, hi]), w1 vs fun i hi => hv i (by simp [Pt.ixs, hi])]
theorem g_tup {es : List Expr} {k : Nat} {ps : List Pt} (h : DGs C es ps) (hp : ps.length = es.length := by rfl)
    (hn : ∀ j, (assignEach es (C.X j).env).length = es.length := by intro _; rfl) (hst : ∀ j, (assignEach es (C.X j).env).findIdx? (·.1) = none := by intro _; rfl) : DG C (.Tuple es k pos) (.tp ps) := by
  obtain ⟨ta, pa, ea⟩ := h.ex
  refine ⟨gTup C.K es.length ta, fun j => by rw [← C.hK j]; exact pg_tup (C.calm j) (pa j) (hn j) (hst j), fun G W P₀ H₀ P O σ st τ ts H g d v st' Q A hA n R r h q => ?_⟩
  cases d with
  | tup ds =>
    have r' : RepA C.K W P (.tup ds) v := by
      cases A with
      | true => simpa [RepF] using r
      | false =>
        have r2 : Rep C.K W P (.tup ds) v := by simpa [RepF] using r
        simp only [Rep] at r2
        obtain ⟨a, xs, rfl, sq, _, rs⟩ := r2
        exact ⟨a, xs, rfl, sq.sq, rs⟩
    obtain ⟨a, xs, rfl, sq, rs⟩ := r'
    simp only [asg] at h
    refine ⟨a, xs, rfl, R.sub.sqT sq, ?_, ea G W _ _ _ _ _ _ _ _ _ _ _ _ _ _ n R rs h q⟩
    rw [rs.length, ← hp]
    clear hp hn hst ea pa rs sq R q r
    have : ∀ (ps : List Pt) (ds : List D) (st : Sl), asgs ps ds st = some st' → ds.length = ps.length := by
      intro ps
      induction ps with
      | nil => intro ds st h; cases ds with
        | nil => rfl
        | cons d ds => simp [asgs] at h
      | cons p ps ih => intro ds st h; cases ds with
        | nil => simp [asgs] at h
        | cons d ds =>
          simp only [asgs] at h
          obtain ⟨st1, e1, h⟩ := Option.bind_eq_some_iff.mp h
          simp [ih _ _ h]
    exact this ps ds st h
  | _ => simp [asg] at h
end
/-- a, b = e -/
def mUnp (p : Pt) (f : M G S) : M G Fl := fun st g => bnd (mTake f st g) fun d st g => (asg p d st).map fun st => (.nx, st, g)
/-! ### the def -/
def mFn (n m : Nat) (b : M G Fl) : Fn G := fun ds g => if ds.length = n then
    (match b (ds.map (fun d => some (.sh d)) ++ List.replicate (m - n) none) g with
    | some (.rt d, _, g) => some (d, g)
    | some (.nx, _, g) => some (.non, g)
    | _ => none)
  else none
theorem Reps.slots {K : PySem.W.Frag} {W : Wd G} {P : PM} : ∀ {ds : List D} {vs : List V}, Reps K W P ds vs → ∀ (m i : Nat) s, (ds.map (fun d => some (S.sh d)) ++ List.replicate m none)[i]? = some (some s) →
    ∃ v, (vs.map some ++ List.replicate m none)[i]? = some (some v) ∧ ∃ d, s = .sh d ∧ Rep K W P d v
  | [], vs, r, m, i, s, e => by
    simp only [List.map_nil, List.nil_append] at e
    have := List.mem_of_getElem? e
    rw [List.mem_replicate] at this
    cases this.2
  | d :: ds, vs, r, m, 0, s, e => by
    simp only [Reps] at r
    obtain ⟨v, r', rfl, r1, r2⟩ := r
    simp only [List.map_cons, List.cons_append, List.getElem?_cons_zero, Option.some.injEq] at e
    exact ⟨v, rfl, d, e.symm, r1⟩
  | d :: ds, vs, r, m, i + 1, s, e => by
    simp only [Reps] at r
    obtain ⟨v, r', rfl, r1, r2⟩ := r
    simp only [List.map_cons, List.cons_append, List.getElem?_cons_succ] at e ⊢
    exact Reps.slots r2 m i s e
structure FI (k : Nat) (qual : Str) (stm : Stmt) (f : Addr) where
  cdv : Value
  A : Around
  outer : List Env
  s : Shared
  H : Hp
  E : XK
  hr : Room k (A.deeper (PyProof.Rows.envOfC qual (defScope stm) s.heap.objs.size f cdv))
  hgd : A.guards = some []
/-- the contexts of a def's body -/
def fcx (P : Program) (w : World) (K : PySem.W.Frag) (mg : Str → Option Value) (base : Heap) (N : List Str) (k : Nat) (qual : Str) (stm : Stmt) (f : Addr) (nd : N.Nodup) : CF where
  ι := FI k qual stm f
  X := fun j => (cxOf CX0 P w K mg base N qual (defScope stm) f j.cdv j.A j.outer j.s j.H j.E).nox
  prog := P
  w := w
  K := K
  mg := mg
  base := base
  N := N
  room := k
  hP := fun _ => rfl
  hw := fun _ => rfl
  hK := fun _ => rfl
  hmg := fun _ => rfl
  hbase := fun _ => rfl
  hN := fun _ => rfl
  nd := nd
  calm := fun _ => rfl
  hr := fun j => j.hr
  hgd := fun j => j.hgd
  xe := fun _ => rfl
theorem fnG_to {P : Program} {w : World} {K : PySem.W.Frag} {mg : Str → Option Value} {base : Heap} {Fam : Wd G → Prop} {k : Nat} {x qual : Str} {stm : Stmt} {f : Addr} {fd : FuncData} {N ps : List Str} {b : M G Fl} {n : Nat}
    (F : Fun K x qual stm f fd) (Sc : FnScope N ps (defScope stm)) (hn : ps.length = n)
    (hbody : DSs (fcx P w K mg base N k qual stm f Sc.nd) Fam (defBody stm) b) : DZ.FnG P w K mg base CX0 (k + 1) f fd ps (spF K Fam n (mFn n N.length b)) := by
  refine DZ.fnG_of F Sc (fun vs H Q E h => ?_) (fun cdv A outer s H vs Q E hr hgd h => ?_)
  · obtain ⟨W, P, ds, g, d, g', h1, h2, _⟩ := h; rw [h2, hn]
  · obtain ⟨W, Ph, ds, g, d, g', hW, h2, ⟨hsub, hnf, hw⟩, rp, hF, q⟩ := h
    obtain ⟨t, pt, et⟩ := hbody.ex
    have et := et W hW
    refine ⟨t, (pt ⟨cdv, A, outer, s, H, E, hr, hgd⟩).nox, ?_⟩
    unfold mFn at hF
    have hl : ds.length = n := by rw [← rp.length]; exact h2
    have hl2 : vs.length = n := h2
    rw [if_pos hl] at hF
    have R : RelB K W Ph H Ph (fun _ => none) (L2.start N vs) (ds.map (fun d => some (.sh d)) ++ List.replicate (N.length - n) none) [] [] H g := by
      refine ⟨hsub, fun _ _ e _ => e, SubP.refl _, fun a e => .inl e, hnf, fun a e => .inl e, (fun a t e => nomatch e), hw, ?_, fun i s e => ?_, trivial⟩
      · simp [L2.start, hl, hl2]
      · obtain ⟨v, e1, d', rfl, r⟩ := rp.slots _ i s e
        exact ⟨v, by simpa [L2.start, hl2] using e1, (fun _ q => nomatch q), r⟩
    have fin : ∀ {P' : PM} {H' : Hp} {O' : Addr → Option Tag} {σ' : L2.St} {st' : Sl} {τ ts}, RelB K W Ph H P' O' σ' st' τ ts H' g' → Out W Ph H P' H' g' := fun R' =>
      ⟨R'.p0, R'.sub, R'.nfp, R'.new, R'.fpn, R'.base, R'.wld⟩
    cases e : b (ds.map (fun d => some (.sh d)) ++ List.replicate (N.length - n) none) g with
    | none => rw [e] at hF; cases hF
    | some r =>
      obtain ⟨fl, st', g2⟩ := r
      rw [e] at hF
      cases fl with
      | rt d' =>
        simp only [Option.some.injEq, Prod.mk.injEq] at hF; obtain ⟨rfl, rfl⟩ := hF
        refine et _ _ _ _ _ _ _ _ _ _ _ _ (fun i z => by cases z) ⟨_, _, R⟩ e fun σ' v H' R' => ?_
        obtain ⟨P', O', R'⟩ := R'
        exact q v H' P' (fin R') R'.temps.1
      | nx =>
        simp only [Option.some.injEq, Prod.mk.injEq] at hF; obtain ⟨rfl, rfl⟩ := hF
        refine et _ _ _ _ _ _ _ _ _ _ _ _ (fun i z => by cases z) ⟨_, _, R⟩ e fun σ' H' R' => ?_
        obtain ⟨P', O', R'⟩ := R'
        exact q .non H' P' (fin R') (by simp [Rep])
      | bk => cases hF
      | ct => cases hF
end DL
namespace DL
open PySem PySem.Spec L2
variable {G : Type}
/-! ### what is walked -/
def Yields (K : PySem.W.Frag) (W : Wd G) (A : Bool) (J : It) (items : List D) (cv : List V) (cells : List S) : Prop :=
  items.length ≤ sizeLine ∧ cv.length = cells.length ∧ NoAt cells ∧
  ∀ (P₀ : PM) (H₀ : Hp) (σ : L2.St) (st : Sl) (ρ : List V) (rs : List S) (τ : List V) (ts : List S) (H : Hp) (g : G), ρ.length = rs.length → Rel K W P₀ H₀ σ st (ρ ++ (cv ++ τ)) (rs ++ (cells ++ ts)) H g →
    (∀ (i : Nat) d, items[i]? = some d → J.go i H ∧ ∀ x H', J.yld i H x H' → ∃ P O, RelB K W P₀ H₀ P O σ st (ρ ++ (cv ++ τ)) (rs ++ (cells ++ ts)) H' g ∧ RepF K W P A d x) ∧
    (∀ i, items.length ≤ i → J.stop i H)
def EvI (K : PySem.W.Frag) (W : Wd G) (A : Bool) (wi : TI) (f : M G (List D × List S)) : Prop :=
  ∀ (P₀ : PM) (H₀ : Hp) (σ : L2.St) (st : Sl) (τ : List V) (ts : List S) (H : Hp) (g : G) (items : List D) (cells : List S) (st' : Sl) (g' : G) (R : It → Hp → Prop),
    Rel K W P₀ H₀ σ st τ ts H g → f st g = some ((items, cells), st', g') →
    (∀ J cv H', Rel K W P₀ H₀ σ st' (cv ++ τ) (cells ++ ts) H' g' → Yields K W A J items cv cells → R J H') → wi σ H R
structure DI (C : CF) (Fam : Wd G → Prop) (A : Bool) (tg iter : Expr) (f : M G (List D × List S)) : Prop where
  ex : ∃ wi, (∀ j, PI (C.X j) tg iter wi) ∧ ∀ W, Fam W → EvI C.K W A wi f
def forM (p : Pt) (body : M G Fl) : List D → M G Fl
  | [], st, g => some (.nx, st, g)
  | d :: ds, st, g => (asg p d st).bind fun st => bnd (body st g) fun fl st g => match fl with
    | .nx => forM p body ds st g
    | .ct => forM p body ds st g
    | .bk => some (.nx, st, g)
    | .rt d => some (.rt d, st, g)
def mFor (src : M G (List D × List S)) (p : Pt) (body : M G Fl) : M G Fl := fun st g => bnd (src st g) fun x st g => forM p body x.1 st g
theorem drop_at {α : Type} {l : List α} {i : Nat} {d : α} (h : l[i]? = some d) : l.drop i = d :: l.drop (i + 1) := by
  obtain ⟨hl, e⟩ := List.getElem?_eq_some_iff.mp h
  rw [List.drop_eq_getElem_cons hl, e]
theorem ev_for {K : PySem.W.Frag} {W : Wd G} {wi : TI} {tg : TG} {tb : TS} {src : M G (List D × List S)} {p : Pt} {body : M G Fl} {A : Bool} (hA : A = true → p.isTp = true) (hi : EvI K W A wi src) (hg : EvG K W tg p) (hb : EvS K W tb body) : EvS K W (tFor wi tg tb) (mFor src p body) := by
  intro P₀ H₀ σ st τ ts H g fl st' g' E n R h q
  obtain ⟨⟨items, cells⟩, st1, g1, e1, h⟩ := bnd_eq h
  refine hi _ _ _ _ _ _ _ _ _ _ _ _ _ R e1 fun J cv H1 R1 Y => ?_
  obtain ⟨hz, hcl, hna, hY⟩ := Y
  refine ⟨fun i m σ H => i + m = items.length ∧ ∃ st g, Rel K W P₀ H₀ σ st (cv ++ τ) (cells ++ ts) H g ∧ forM p body (items.drop i) st g = some (fl, st', g'),
    ⟨items.length, by omega, st1, g1, R1, by simpa using h⟩, fun i m σ H hW => ?_⟩
  obtain ⟨em, st2, g2, R2, h2⟩ := hW
  have n2 : NoAt (cells ++ ts) := hna.app n
  obtain ⟨hgo, hstop⟩ := hY P₀ H₀ σ st2 [] [] τ ts H g2 rfl R2
  simp only [List.nil_append] at hgo
  by_cases hlt : i < items.length
  · right
    have ei : items[i]? = some items[i] := List.getElem?_eq_getElem hlt
    obtain ⟨h3, h4⟩ := hgo i _ ei
    rw [drop_at ei] at h2
    simp only [forM] at h2
    obtain ⟨st3, e3, h2⟩ := Option.bind_eq_some_iff.mp h2
    obtain ⟨f4, st4, g4, e4, h2⟩ := bnd_eq h2
    refine ⟨h3, fun σ' H' => i + 1 + (m - 1) = items.length ∧ ∃ st g, Rel K W P₀ H₀ σ' st (cv ++ τ) (cells ++ ts) H' g ∧ forM p body (items.drop (i + 1)) st g = some (fl, st', g'), fun σ' H' hN => ⟨m - 1, by omega, hN⟩, fun x H' hy => ?_⟩
    obtain ⟨P, O, R3, r3⟩ := h4 x H' hy
    refine hg _ _ _ _ _ _ _ _ _ _ _ _ _ _ A hA n2 R3 r3 e3 fun σ2 _ R4 => ?_
    refine hb _ _ _ _ _ _ _ _ _ _ _ _ n2 ⟨P, O, R4⟩ e4 ?_
    cases f4 with
    | nx => exact fun σ' H' R' => ⟨by omega, _, _, R', h2⟩
    | ct => exact fun σ' H' R' => ⟨by omega, _, _, R', h2⟩
    | bk =>
      simp only [Option.some.injEq, Prod.mk.injEq] at h2; obtain ⟨rfl, rfl, rfl⟩ := h2
      exact fun σ' H' R' => q σ' H' (R'.drop hcl)
    | rt d =>
      simp only [Option.some.injEq, Prod.mk.injEq] at h2; obtain ⟨rfl, rfl, rfl⟩ := h2
      exact fun σ' v H' R' => q σ' v H' (R'.keepTop hcl)
  · left
    have hle : items.length ≤ i := Nat.le_of_not_lt hlt
    rw [List.drop_eq_nil_of_le hle] at h2
    simp only [forM, Option.some.injEq, Prod.mk.injEq] at h2; obtain ⟨rfl, rfl, rfl⟩ := h2
    exact ⟨hstop i hle, q _ _ (R2.drop hcl)⟩
section
variable {C : CF} {Fam : Wd G → Prop} {tg iter : Expr} {pos : Pos} {body : List Stmt}
theorem d_for {src : M G (List D × List S)} {p : Pt} {b : M G Fl} {A : Bool} (hi : DI C Fam A tg iter src) (hg : DG C tg p) (hb : DSs C Fam body b) (hA : A = true → p.isTp = true := by first | (intro h; cases h; done) | (intro _; rfl)) (hs : ∀ j x, foldedSetIterable iter (C.X j).env x = pure x := by intro _ _; rfl) :
    DS C Fam (.For tg iter body [] pos) (mFor src p b) := by
  obtain ⟨ti, pi, ei⟩ := hi.ex
  obtain ⟨ta, pa, ea⟩ := hg.ex
  obtain ⟨tb, pb, eb⟩ := hb.ex
  exact ⟨_, fun j => ps_for (by rw [C.xe j]; exact PassesOwn.never) (C.calm j) (pi j) (pa j) (pb j) (hs j), fun W hW => ev_for hA (ei W hW) (ea G W) (eb W hW)⟩
end
/-! ### while -/
def whileM (c : M G Bool) (b : M G Fl) : Nat → M G Fl
  | 0, _, _ => none
  | n + 1, st, g => bnd (c st g) fun t st g => if t = true then bnd (b st g) fun fl st g => (match fl with
      | .nx => whileM c b n st g
      | .ct => whileM c b n st g
      | .bk => some (.nx, st, g)
      | .rt d => some (.rt d, st, g))
    else some (.nx, st, g)
theorem whileM_mono {c : M G Bool} {b : M G Fl} : ∀ (n : Nat) (st : Sl) (g : G) r, whileM c b n st g = some r → whileM c b (n + 1) st g = some r
  | 0, _, _, _, h => by cases h
  | n + 1, st, g, r, h => by
    simp only [whileM] at h
    obtain ⟨t, st1, g1, e1, h⟩ := bnd_eq h
    rw [whileM, e1, bnd_some]
    split at h
    · rename_i ht
      rw [if_pos ht]
      obtain ⟨f, st2, g2, e2, h⟩ := bnd_eq h
      rw [e2, bnd_some]
      cases f with
      | nx => exact whileM_mono n _ _ _ h
      | ct => exact whileM_mono n _ _ _ h
      | bk => exact h
      | rt d => exact h
    · rename_i ht
      rw [if_neg ht]; exact h
theorem whileM_le {c : M G Bool} {b : M G Fl} {n m : Nat} (h : n ≤ m) {st : Sl} {g : G} {r} (e : whileM c b n st g = some r) : whileM c b m st g = some r := by
  induction h with
  | refl => exact e
  | step _ ih => exact whileM_mono _ _ _ _ ih
open Classical in
noncomputable def mWhile (c : M G Bool) (b : M G Fl) : M G Fl := fun st g =>
  if h : ∃ n, (whileM c b n st g).isSome = true then whileM c b h.choose st g else none
theorem mWhile_of {c : M G Bool} {b : M G Fl} {n : Nat} {st : Sl} {g : G} {r} (e : whileM c b n st g = some r) : mWhile c b st g = some r := by
  have h : ∃ n, (whileM c b n st g).isSome = true := ⟨n, by rw [e]; rfl⟩
  rw [mWhile, dif_pos h]
  obtain ⟨r', e'⟩ := Option.isSome_iff_exists.mp h.choose_spec
  rw [e']
  rcases Nat.le_total n h.choose with l | l
  · rw [whileM_le l e] at e'; exact e'.symm
  · rw [whileM_le l e'] at e; exact e
theorem mWhile_eq {c : M G Bool} {b : M G Fl} {st : Sl} {g : G} {r} (e : mWhile c b st g = some r) : ∃ n, whileM c b n st g = some r := by
  unfold mWhile at e
  split at e
  · exact ⟨_, e⟩
  · cases e
theorem ev_while {K : PySem.W.Frag} {W : Wd G} {tc : TT} {tb : TS} {c : M G Bool} {b : M G Fl} (hc : EvT K W tc c) (hb : EvS K W tb b) : EvS K W (tWhile tc tb) (mWhile c b) := by
  intro P₀ H₀ σ st τ ts H g fl st' g' E n R h q
  obtain ⟨m, h⟩ := mWhile_eq h
  refine ⟨fun m σ H => ∃ st g, Rel K W P₀ H₀ σ st τ ts H g ∧ whileM c b m st g = some (fl, st', g'), ⟨m, st, g, R, h⟩, fun m σ H hW => ?_⟩
  obtain ⟨st1, g1, R1, h1⟩ := hW
  cases m with
  | zero => cases h1
  | succ m =>
    simp only [whileM] at h1
    obtain ⟨t, st2, g2, e2, h1⟩ := bnd_eq h1
    refine hc _ _ _ _ _ _ _ _ _ _ _ _ R1 e2 fun H2 R2 => ?_
    cases t with
    | false =>
      rw [if_neg (by simp)] at h1 ⊢
      simp only [Option.some.injEq, Prod.mk.injEq] at h1; obtain ⟨rfl, rfl, rfl⟩ := h1
      exact q _ _ R2
    | true =>
      rw [if_pos rfl] at h1 ⊢
      obtain ⟨f4, st4, g4, e4, h2⟩ := bnd_eq h1
      refine ⟨fun σ' H' => ∃ st g, Rel K W P₀ H₀ σ' st τ ts H' g ∧ whileM c b m st g = some (fl, st', g'), fun σ' H' hN => ⟨m, by omega, hN⟩, ?_⟩
      refine hb _ _ _ _ _ _ _ _ _ _ _ _ n R2 e4 ?_
      cases f4 with
      | nx => exact fun σ' H' R' => ⟨_, _, R', h2⟩
      | ct => exact fun σ' H' R' => ⟨_, _, R', h2⟩
      | bk =>
        simp only [Option.some.injEq, Prod.mk.injEq] at h2; obtain ⟨rfl, rfl, rfl⟩ := h2
        exact fun σ' H' R' => q σ' H' R'
      | rt d =>
        simp only [Option.some.injEq, Prod.mk.injEq] at h2; obtain ⟨rfl, rfl, rfl⟩ := h2
        exact fun σ' v H' R' => q σ' v H' R'
section
variable {C : CF} {Fam : Wd G → Prop} {c : Expr} {pos : Pos} {body : List Stmt}
theorem d_while {x : M G Bool} {b : M G Fl} (hc : DT C Fam c x) (hb : DSs C Fam body b) : DS C Fam (.While c body [] pos) (mWhile x b) := by
  obtain ⟨ta, pa, ea⟩ := hc.ex
  obtain ⟨tb, pb, eb⟩ := hb.ex
  exact ⟨_, fun j => ps_while (by rw [C.xe j]; exact PassesOwn.never) (pa j) (pb j), fun W hW => ev_while (ea W hW) (eb W hW)⟩
end
/-! ### list comprehensions -/
def hide : S → S
  | .at _ => .any
  | .sh d => .sh d
  | .ow d => .ow d
  | .any => .any
def wipeS (st : Sl) : List Nat → Sl
  | [] => st
  | v :: vs => (wipeS st vs).set v none
theorem wipeS_length (st : Sl) : ∀ vs : List Nat, (wipeS st vs).length = st.length
  | [] => rfl
  | v :: vs => by simp [wipeS, wipeS_length st vs]
theorem wipeS_some {st : Sl} {i : Nat} {s : S} : ∀ {vs : List Nat}, (wipeS st vs)[i]? = some (some s) → st[i]? = some (some s) ∧ i ∉ vs
  | [], h => ⟨h, by simp⟩
  | v :: vs, h => by
    simp only [wipeS] at h
    by_cases e : v = i
    · subst e
      by_cases hl : v < (wipeS st vs).length
      · rw [List.getElem?_set_self hl] at h; cases h
      · rw [List.getElem?_eq_none (by simpa using Nat.le_of_not_lt hl)] at h; cases h
    · rw [List.getElem?_set_ne e] at h
      obtain ⟨h1, h2⟩ := wipeS_some h
      exact ⟨h1, by simp [h2, Ne.symm e]⟩
theorem hide_noAt (ts : List S) : NoAt (ts.map hide) := fun i h => by
  obtain ⟨s, _, e⟩ := List.mem_map.mp h
  cases s <;> cases e
section
variable {K : PySem.W.Frag} {W : Wd G} {P₀ P P' : PM} {H₀ H H' : Hp} {O O' : Addr → Option Tag} {σ σ' : L2.St} {st st' : Sl} {τ : List V} {ts : List S} {g : G} {v : V} {s : S} {d : D} {vs : List Nat}
theorem TOk.hide : ∀ {τ : List V} {ts : List S}, TOk K W P O H σ τ ts → TOk K W P O H σ' τ (ts.map DL.hide)
  | [], [], h => h
  | v :: τ, s :: ts, h => by
    refine ⟨?_, TOk.hide h.2⟩
    have h1 := h.1
    cases s with
    | sh e => exact h1
    | ow e => exact h1
    | any => exact h1
    | «at» i => exact trivial
  | [], _ :: _, h => h.elim
  | _ :: _, [], h => h.elim
theorem TOk.unhide : ∀ {τ : List V} {ts : List S}, TOk K W P O H σ τ ts → TOk K W P' O' H' σ' τ (ts.map DL.hide) → TOk K W P' O' H' σ τ ts
  | [], [], _, h => h
  | v :: τ, s :: ts, h0, h => by
    refine ⟨?_, TOk.unhide h0.2 h.2⟩
    have h1 := h.1
    cases s with
    | sh e => exact h1
    | ow e => exact h1
    | any => exact h1
    | «at» i => exact h0.1
  | [], _ :: _, h, _ => h.elim
  | _ :: _, [], h, _ => h.elim
theorem RelB.hide (R : RelB K W P₀ H₀ P O σ st τ ts H g) : RelB K W P₀ H₀ P O σ st τ (ts.map DL.hide) H g := { R with temps := R.temps.hide }
theorem SOk.sigma {t : Tag} (h : SOk K W P O H σ t v s) (n : ∀ j, s ≠ .at j) : SOk K W P O H σ' t v s := by
  cases s with
  | sh e => exact h
  | ow e => exact h
  | any => exact h
  | «at» i => exact absurd rfl (n i)
theorem RelB.wipe (R : RelB K W P₀ H₀ P O σ st τ ts H g) (n : NoAt ts) : RelB K W P₀ H₀ P O (wipe σ vs) (wipeS st vs) τ ts H g := by
  refine { R with len := by rw [wipeS_length, wipe_length]; exact R.len, slots := fun i s e => ?_, temps := R.temps.noAt n }
  obtain ⟨e1, hv⟩ := wipeS_some e
  obtain ⟨v, e2, e3, q⟩ := R.slots i s e1
  exact ⟨v, by rw [wipe_out hv]; exact e2, e3, q.sigma e3⟩
theorem RelB.unwipe (R : RelB K W P₀ H₀ P O (L2.wipe σ vs) (wipeS st vs) τ ts H g) (n : NoAt ts) : RelB K W P₀ H₀ P O σ (wipeS st vs) τ ts H g := by
  refine { R with len := by have := R.len; rw [wipe_length] at this; exact this, slots := fun i s e => ?_, temps := R.temps.noAt n }
  obtain ⟨e1, hv⟩ := wipeS_some e
  obtain ⟨v, e2, e3, q⟩ := R.slots i s e
  exact ⟨v, by rw [wipe_out hv] at e2; exact e2, e3, q.sigma e3⟩
theorem RelB.writeT {a : Addr} {o' : HO} {d' : D} (R : RelB K W P₀ H₀ P O σ st (.ref a :: τ) (.ow d :: ts) H g) (hd : Own K W P a o' d') : RelB K W P₀ H₀ P O σ st (.ref a :: τ) (.ow d' :: ts) (upd H a o') g := by
  obtain ⟨a', o, ev, eO, eH, q⟩ := R.temps.1
  cases ev
  have own := R.own a _ eO
  have ne : ∀ b t, O b = some t → t ≠ .tmp τ.length → b ≠ a := fun b t z ht y => by subst y; rw [eO] at z; exact ht (Option.some.inj z).symm
  refine { R with sub := fun b u z => ?_, base := fun b u z n => ?_, own := fun b t z => ?_, wld := ?_, slots := fun j s z => ?_, temps := ⟨⟨a, o', rfl, eO, upd_same, hd⟩, ?_⟩ }
  · rw [upd_ne (ne_of_none z own.1)]; exact R.sub b u z
  · rw [upd_ne (ne_of_none z own.2.1)]; exact R.base b u z n
  · obtain ⟨h1, h2, h3, h4⟩ := R.own b t z
    refine ⟨h1, h2, h3, ?_⟩
    by_cases hb : b = a
    · subst hb; rw [upd_same]; simp
    · rw [upd_ne hb]; exact h4
  · exact W.loc g P P H _ R.wld (LeP.refl P) rfl (fun b hb => upd_ne fun y => own.2.2.1 (y ▸ hb)) (keep_ne eH q.cod)
  · obtain ⟨v', e1, e2, q⟩ := R.slots j s z
    exact ⟨v', e1, e2, q.mono (SubP.refl P) (fun _ z => z) fun b u z w' => by
      rw [upd_ne (ne b _ z fun y => nomatch y)]; exact w'⟩
  · exact R.temps.2.mono (SubP.refl P) (fun _ _ _ z => z) fun b u k hk z w' => by
      rw [upd_ne (ne b _ z fun y => by cases y; exact absurd hk (Nat.lt_irrefl _))]; exact w'
end
theorem wipe_wipe (σ : L2.St) (vs : List Nat) : wipe (wipe σ vs) vs = wipe σ vs := by
  have : ∀ (ws us : List Nat) (σ : L2.St), (∀ w ∈ ws, w ∈ us) → wipe (wipe σ ws) us = wipe σ us := by
    intro ws
    induction ws with
    | nil => intro us σ _; rfl
    | cons w ws ih =>
      intro us σ hs
      simp only [wipe]
      rw [wipe_set _ w none us (hs w List.mem_cons_self)]
      exact ih us σ fun x hx => hs x (List.mem_cons_of_mem _ hx)
  exact this vs vs σ fun _ h => h
def compM (p : Pt) (vs : List Nat) (test : M G Bool) (elt : M G S) : List D → List D → M G (List D)
  | [], acc, st, g => some (acc, st, g)
  | d :: ds, acc, st, g => (asg p d (wipeS st vs)).bind fun st => bnd (test st g) fun b st g =>
      if b = true then bnd (mTake elt st g) fun y st g => compM p vs test elt ds (acc ++ [y]) st g else compM p vs test elt ds acc st g
theorem lc_run {K : PySem.W.Frag} {W : Wd G} {J : It} {items : List D} {cv : List V} {cells : List S} {tg : TG} {tt : TT} {te : TE} {p : Pt} {vs : List Nat} {test : M G Bool} {elt : M G S} {A : Bool} (hA : A = true → p.isTp = true)
    (hY : Yields K W A J items cv cells) (hg : EvG K W tg p) (ht : EvT K W tt test) (he : EvE K W te elt) (hv : ∀ i ∈ p.ix, i ∈ vs)
    {P₀ : PM} {H₀ : Hp} {σ : L2.St} {st : Sl} {τ : List V} {ts : List S} {H1 : Hp} {g : G} {accN : List D} {stN : Sl} {gN : G} {Qd : Hp → Prop} {D0 : Addr} (h0 : H1 D0 = none)
    (R : Rel K W P₀ H₀ σ st (cv ++ τ) (cells ++ ts) H1 g) (h : compM p vs test elt items [] st g = some (accN, stN, gN))
    (q : ∀ H', Rel K W P₀ H₀ σ (wipeS stN vs) (.ref D0 :: (cv ++ τ)) (.ow (.lst accN) :: (cells ++ ts)) H' gN → Qd H') :
    ∃ Wi : Nat → Nat → Hp → Prop, (∃ m, Wi 0 m (upd H1 D0 (.lst []))) ∧ ∀ i m H, Wi i m H →
      (J.stop i H ∧ Qd H) ∨ (J.go i H ∧ ∃ Nx : Hp → Prop, (∀ H', Nx H' → ∃ m', m' < m ∧ Wi (i + 1) m' H') ∧ ∀ x H', J.yld i H x H' → tg x (wipe σ vs) H' fun σ2 H2 => wipe σ2 vs = wipe σ vs ∧ tt σ2 H2 fun b H3 =>
        if b = true then te σ2 H3 fun y H4 => ∃ acc, H4 D0 = some (.lst acc) ∧ acc.length < sizeLine ∧ Nx (upd H4 D0 (.lst (acc ++ [y]))) else Nx H3) := by
  obtain ⟨hz, hcl, hna, hYy⟩ := hY
  have nh : NoAt (cells ++ ts.map DL.hide) := hna.app (hide_noAt ts)
  have nh2 : ∀ d, NoAt (.ow d :: (cells ++ ts.map DL.hide)) := fun d i z => by
    rcases List.mem_cons.mp z with z | z
    · cases z
    · exact nh i z
  have hlen : ∀ {P O σ H}, TOk K W P O H σ (cv ++ τ) (cells ++ ts) → τ.length = ts.length := fun t => by
    have := t.len; rw [List.length_append, List.length_append, hcl] at this; omega
  refine ⟨fun i m H => i + m = items.length ∧ ∃ st g acc, Rel K W P₀ H₀ (wipe σ vs) (wipeS st vs) (.ref D0 :: (cv ++ τ)) (.ow (.lst acc) :: (cells ++ ts.map DL.hide)) H g ∧ acc.length ≤ i ∧ compM p vs test elt (items.drop i) acc st g = some (accN, stN, gN),
    ⟨items.length, by omega, st, g, [], ?_, Nat.le_refl _, by simpa using h⟩, fun i m H hW => ?_⟩
  · obtain ⟨P, O, R⟩ := R
    have R' : RelB K W P₀ H₀ P O σ st (cv ++ τ) (cells ++ ts.map DL.hide) H1 g := by
      have := R.hide
      rw [List.map_append] at this
      have e : cells.map DL.hide = cells := by
        have : ∀ cs : List S, NoAt cs → cs.map DL.hide = cs := by
          intro cs
          induction cs with
          | nil => intro _; rfl
          | cons c cs ih =>
            intro n
            rw [List.map_cons, ih fun i z => n i (List.mem_cons_of_mem _ z)]
            cases c with
            | «at» j => exact absurd List.mem_cons_self (n j)
            | _ => rfl
        exact this cells hna
      rw [e] at this; exact this
    obtain ⟨O', R2⟩ := R'.laidOwn (d := .lst []) h0 ⟨[], rfl, Nat.zero_le _, by simp [Reps]⟩
    exact ⟨P, O', R2.wipe (nh2 _)⟩
  · obtain ⟨em, st2, g2, acc, R2, ha, h2⟩ := hW
    obtain ⟨hgo, hstop⟩ := hYy P₀ H₀ _ _ [.ref D0] [.ow (.lst acc)] τ (ts.map DL.hide) H g2 rfl R2
    by_cases hlt : i < items.length
    · right
      have ei : items[i]? = some items[i] := List.getElem?_eq_getElem hlt
      obtain ⟨h3, h4⟩ := hgo i _ ei
      rw [drop_at ei] at h2
      simp only [compM] at h2
      obtain ⟨st3, e3, h2⟩ := Option.bind_eq_some_iff.mp h2
      obtain ⟨b, st4, g4, e4, h2⟩ := bnd_eq h2
      refine ⟨h3, fun H' => i + 1 + (m - 1) = items.length ∧ ∃ st g acc, Rel K W P₀ H₀ (wipe σ vs) (wipeS st vs) (.ref D0 :: (cv ++ τ)) (.ow (.lst acc) :: (cells ++ ts.map DL.hide)) H' g ∧ acc.length ≤ i + 1 ∧ compM p vs test elt (items.drop (i + 1)) acc st g = some (accN, stN, gN), fun H' hN => ⟨m - 1, by omega, hN⟩, fun x H' hy => ?_⟩
      obtain ⟨P, O, R3, r3⟩ := h4 x H' hy
      refine hg _ _ _ _ _ _ _ _ _ _ _ _ _ _ A hA (nh2 _) R3 r3 e3 fun σ2 w2 R4 => ?_
      have w3 : wipe σ2 vs = wipe σ vs := by
        rw [w2 vs hv]
        exact wipe_wipe σ vs
      refine ⟨w3, ht _ _ _ _ _ _ _ _ _ _ _ _ ⟨P, O, R4⟩ e4 fun H3 R5 => ?_⟩
      cases b with
      | false =>
        rw [if_neg (by simp)] at h2 ⊢
        obtain ⟨P, O, R5⟩ := R5
        have R6 := R5.wipe (vs := vs) (nh2 _)
        rw [w3] at R6
        exact ⟨by omega, st4, g4, acc, ⟨P, O, R6⟩, by omega, h2⟩
      | true =>
        rw [if_pos rfl] at h2 ⊢
        obtain ⟨y, st5, g5, e5, h2⟩ := bnd_eq h2
        obtain ⟨r, st0, e6, e7⟩ := mTake_eq e5
        refine he _ _ _ _ _ _ _ _ _ _ _ _ R5 e6 fun v H4 R6 => ?_
        obtain ⟨P, O, R6⟩ := R6
        obtain ⟨P', O', R6⟩ := R6.takeV e7
        have ry : Rep K W P' y v := R6.temps.1
        have R7 := R6.pop
        obtain ⟨a', o, ev, eO, eH, xs, rfl, hzx, rx⟩ := R7.temps.1
        cases ev
        have hzz : acc.length + 1 ≤ sizeLine := by omega
        refine ⟨xs, eH, by rw [rx.length]; omega, by omega, st5, g5, acc ++ [y], ?_, by simp; omega, h2⟩
        have R8 := (R7.writeT (o' := .lst (xs ++ [v])) (d' := .lst (acc ++ [y])) ⟨_, rfl, by simp; omega, rx.append (Reps.one ry)⟩).wipe (vs := vs) (nh2 _)
        rw [w3] at R8
        exact ⟨P', O', R8⟩
    · left
      have hle : items.length ≤ i := Nat.le_of_not_lt hlt
      rw [List.drop_eq_nil_of_le hle] at h2
      simp only [compM, Option.some.injEq, Prod.mk.injEq] at h2; obtain ⟨rfl, rfl, rfl⟩ := h2
      refine ⟨hstop i hle, q _ ?_⟩
      obtain ⟨P, O, R2⟩ := R2
      obtain ⟨P1, O1, R1⟩ := R
      have R3 := R2.unwipe (nh2 _)
      refine ⟨P, O, { R3 with temps := ⟨R3.temps.1, ?_⟩ }⟩
      have t1 : TOk K W P1 O1 H1 σ (cv ++ τ) (cells ++ ts) := R1.temps
      have t2 : TOk K W P O H σ (cv ++ τ) (cells ++ ts.map DL.hide) := R3.temps.2
      -- the cells have no at
      have : ∀ (cv : List V) (cells : List S), cv.length = cells.length → NoAt cells → TOk K W P1 O1 H1 σ (cv ++ τ) (cells ++ ts) → TOk K W P O H σ (cv ++ τ) (cells ++ ts.map DL.hide) → TOk K W P O H σ (cv ++ τ) (cells ++ ts) := by
        intro cv
        induction cv with
        | nil => intro cells hl n a b; cases cells with
          | nil => exact TOk.unhide a b
          | cons c cs => simp at hl
        | cons c cv ih => intro cells hl n a b; cases cells with
          | nil => simp at hl
          | cons s cs =>
            refine ⟨?_, ih cs (by simpa using hl) (fun i z => n i (List.mem_cons_of_mem _ z)) a.2 b.2⟩
            have b1 := b.1
            have e : (cv ++ τ).length = (cv ++ τ).length := rfl
            exact b1
      exact this cv cells hcl hna t1 t2
def mLc (src : M G (List D × List S)) (p : Pt) (vs : List Nat) (test : M G Bool) (elt : M G S) : M G S := fun st g =>
  bnd (src st g) fun x st g => bnd (compM p vs test elt x.1 [] st g) fun acc st g => some (.ow (.lst acc), wipeS st vs, g)
theorem RelB.under {K : PySem.W.Frag} {W : Wd G} {P₀ P : PM} {H₀ H : Hp} {O : Addr → Option Tag} {σ : L2.St} {st : Sl} {cv τ : List V} {cells ts : List S} {g : G} {a : Addr} {d : D} (R : RelB K W P₀ H₀ P O σ st (.ref a :: (cv ++ τ)) (.ow d :: (cells ++ ts)) H g) (hl : cv.length = cells.length) :
    ∃ O', RelB K W P₀ H₀ P O' σ st (.ref a :: τ) (.ow d :: ts) H g := by
  obtain ⟨a', o, ev, eO, eH, q⟩ := R.temps.1
  cases ev
  have own := R.own a _ eO
  refine ⟨fun b => if b = a then some (.tmp τ.length) else O b, { R with own := fun b t z => ?_, slots := fun j s z => ?_, temps := ⟨⟨a, o, rfl, if_pos rfl, eH, q⟩, ?_⟩ }⟩
  · by_cases hb : b = a
    · subst hb; exact own
    · rw [if_neg hb] at z; exact R.own b t z
  · obtain ⟨v', e1, e2, q⟩ := R.slots j s z
    refine ⟨v', e1, e2, q.mono (SubP.refl P) (fun b z => (if_neg fun y => ?_).trans z) (fun _ _ _ z => z)⟩
    subst y; rw [eO] at z; cases z
  · refine TOk.mono (SubP.refl P) (fun b k hk z => (if_neg fun y => ?_).trans z) (fun _ _ _ _ _ z => z) (R.temps.2.drop hl)
    subst y; rw [eO] at z; cases z
    rw [List.length_append] at hk; omega
structure DTs (C : CF) (Fam : Wd G → Prop) (ifs : List Expr) (f : M G Bool) : Prop where
  ex : ∃ t, (∀ j, PTs (C.X j) ifs t) ∧ ∀ W, Fam W → EvT C.K W t f
def mYes : M G Bool := fun st g => some (true, st, g)
section
variable {C : CF} {Fam : Wd G → Prop} {tg iter elt : Expr} {ifs : List Expr} {scope : Scope} {pos : Pos} {own : List (Str × Nat)}
theorem t_nil : DTs C Fam [] mYes := ⟨_, fun _ => pts_nil, fun W hW P₀ H₀ σ st τ ts H g z st' g' Q R h q => by
  simp only [mYes, Option.some.injEq, Prod.mk.injEq] at h; obtain ⟨rfl, rfl, rfl⟩ := h
  exact q H R⟩
theorem t_one {c : Expr} {f : M G Bool} (h : DT C Fam c f) : DTs C Fam [c] f := let ⟨t, p, q⟩ := h.ex; ⟨t, fun j => pts_one (p j), q⟩
theorem ev_lc {K : PySem.W.Frag} {W : Wd G} {wi : TI} {tg : TG} {tt : TT} {te : TE} {src : M G (List D × List S)} {p : Pt} {vs : List Nat} {test : M G Bool} {elt : M G S} {A : Bool} (hA : A = true → p.isTp = true)
    (hi : EvI K W A wi src) (hg : EvG K W tg p) (ht : EvT K W tt test) (he : EvE K W te elt) (hv : ∀ i ∈ p.ix, i ∈ vs) : EvE K W (tLc wi tg tt te vs) (mLc src p vs test elt) := by
  intro P₀ H₀ σ st τ ts H g r st' g' Q R h q
  obtain ⟨⟨items, cells⟩, st1, g1, e1, h⟩ := bnd_eq h
  obtain ⟨acc, st2, g2, e2, h⟩ := bnd_eq h
  simp only [Option.some.injEq, Prod.mk.injEq] at h; obtain ⟨rfl, rfl, rfl⟩ := h
  refine hi _ _ _ _ _ _ _ _ _ _ _ _ _ R e1 fun J cv H1 R1 Y => fun D0 h0 => ?_
  refine lc_run hA Y hg ht he hv h0 R1 e2 fun H' R' => ?_
  obtain ⟨P, O, R'⟩ := R'
  obtain ⟨O', R2⟩ := R'.under Y.2.1
  exact q _ _ ⟨P, O', R2⟩
/-- the contexts of a comprehension's block -/
def CF.blk (C : CF) (scope : Scope) : CF where
  ι := C.ι × Shared × Hp × Addr × List (Str × Addr) × List Addr
  X := fun j => (C.X j.1).blk j.2.1 j.2.2.1 scope (PySem.compEnvC scope j.2.2.2.2.1 j.2.2.2.1 (C.X j.1).env) j.2.2.2.2.2
  prog := C.prog
  w := C.w
  K := C.K
  mg := C.mg
  base := C.base
  N := C.N
  room := C.room
  hP := fun j => C.hP j.1
  hw := fun j => C.hw j.1
  hK := fun j => C.hK j.1
  hmg := fun j => C.hmg j.1
  hbase := fun j => C.hbase j.1
  hN := fun j => C.hN j.1
  nd := C.nd
  calm := fun j => C.calm j.1
  hr := fun j => C.hr j.1
  hgd := fun j => C.hgd j.1
  xe := fun _ => rfl
theorem d_lc {src : M G (List D × List S)} {p : Pt} {test : M G Bool} {f : M G S} {A : Bool} (own : List (Str × Nat)) (hi : DI C Fam A tg iter src) (hg : DG (C.blk scope) tg p) (ht : DTs (C.blk scope) Fam ifs test) (he : DE (C.blk scope) Fam elt f)
    (ok : ∀ j, blkC C.N (C.X j).env.scope scope own = true := by intro _; decide +kernel) (hv : ∀ i ∈ p.ix, i ∈ own.map (·.2) := by decide) (hA : A = true → p.isTp = true := by first | (intro h; cases h; done) | (intro _; rfl)) (hs : ∀ j x, foldedSetIterable iter (C.X j).env x = pure x := by intro _ _; rfl) :
    DE C Fam (.ListComp elt [⟨tg, iter, ifs, 0⟩] scope pos) (mLc src p (own.map (·.2)) test f) := by
  obtain ⟨ti, pi, ei⟩ := hi.ex
  obtain ⟨ta, pa, ea⟩ := hg.ex
  obtain ⟨tt, pt, et⟩ := ht.ex
  obtain ⟨te, pe, ee⟩ := he.ex
  exact ⟨_, fun j => pe_lc (own := own) (C.calm j) (C.nd' j) (pi j) (by rw [C.hN j]; exact blkOk_by (ok j)) (fun s H Ca cl fp => pa (j, s, H, Ca, cl, fp)) (fun s H Ca cl fp => pt (j, s, H, Ca, cl, fp)) (fun s H Ca cl fp => pe (j, s, H, Ca, cl, fp)) (hs j),
    fun W hW => ev_lc hA (ei W hW) (ea G W) (et W hW) (ee W hW) hv⟩
/-- y = [.. for ..] on one line -/
theorem d_setLc {src : M G (List D × List S)} {p : Pt} {test : M G Bool} {f : M G S} (i : Nat) {A : Bool} (own : List (Str × Nat)) {y : Str} {py spos : Pos} (hi : DI C Fam A tg iter src) (hg : DG (C.blk scope) tg p) (ht : DTs (C.blk scope) Fam ifs test) (he : DE (C.blk scope) Fam elt f)
    (hy : C.N[i]? = some y := by rfl) (hyl : ∀ j, (C.X j).env.scope.names.lookup y = some .local := by intro _; rfl)
    (hsw : ∀ j, swapsWith (.ListComp elt [⟨tg, iter, ifs, 0⟩] scope pos) (some (.Name y py)) spos.line (C.X j).env = pure true := by intro _; exact sw_true rfl rfl rfl (by decide +kernel))
    (ok : ∀ j, blkC C.N (C.X j).env.scope scope own = true := by intro _; decide +kernel) (hv : ∀ i ∈ p.ix, i ∈ own.map (·.2) := by decide) (hA : A = true → p.isTp = true := by first | (intro h; cases h; done) | (intro _; rfl)) (hs : ∀ j x, foldedSetIterable iter (C.X j).env x = pure x := by intro _ _; rfl) :
    DS C Fam (.Assign [.Name y py] (.ListComp elt [⟨tg, iter, ifs, 0⟩] scope pos) spos) (mSet i (mLc src p (own.map (·.2)) test f)) := by
  obtain ⟨ti, pi, ei⟩ := hi.ex
  obtain ⟨ta, pa, ea⟩ := hg.ex
  obtain ⟨tt, pt, et⟩ := ht.ex
  obtain ⟨te, pe, ee⟩ := he.ex
  exact ⟨_, fun j => ps_setLc (own := own) (C.calm j) (C.nd' j) (by rw [C.hN j]; exact hy) (hyl j) (hsw j) (pi j) (by rw [C.hN j]; exact blkOk_by (ok j)) (fun s H Ca cl fp => pa (j, s, H, Ca, cl, fp)) (fun s H Ca cl fp => pt (j, s, H, Ca, cl, fp)) (fun s H Ca cl fp => pe (j, s, H, Ca, cl, fp)) (hs j),
    fun W hW => ev_set (ev_lc hA (ei W hW) (ea G W) (et W hW) (ee W hW) hv)⟩
end
end DL
namespace DL
open PySem PySem.Spec L2
variable {G : Type}
section
variable {K : PySem.W.Frag} {W : Wd G} {P₀ P : PM} {H₀ H : Hp} {O : Addr → Option Tag} {σ : L2.St} {st st' : Sl} {τ ρ : List V} {ts rs : List S} {g : G} {v : V} {s : S} {d : D}
/-- a shared cell within the temporaries -/
theorem RelB.cell (R : RelB K W P₀ H₀ P O σ st (ρ ++ (v :: τ)) (rs ++ (.sh d :: ts)) H g) (e : ρ.length = rs.length) : Rep K W P d v := (R.temps.drop e).1
theorem noAt_sh (d : D) : NoAt [S.sh d] := fun i h => by simp at h
theorem yields_lst {a : Addr} {ds : List D} (hz : ds.length ≤ sizeLine) : Yields K W false (Itl K a) ds [.ref a] [.sh (.lst ds)] := by
  refine ⟨hz, rfl, noAt_sh _, fun P₀ H₀ σ st ρ rs τ ts H g hl R => ?_⟩
  obtain ⟨P, O, R⟩ := R
  have c : Rep K W P (.lst ds) (.ref a) := R.cell hl
  simp only [Rep] at c
  obtain ⟨a', xs, e, sq, _, rp⟩ := c
  cases e
  have sq' : SqL K H a xs := SqL.of (R.sub _ _ sq)
  refine ⟨fun i d e => ?_, fun i hi => ⟨xs, sq', by rw [rp.length]; exact hi⟩⟩
  obtain ⟨x, ex, rx⟩ := rp.get e
  refine ⟨⟨xs, x, sq', ex⟩, fun y H' ⟨e1, e2⟩ => ?_⟩
  subst e1
  have : some x = some y := ex.symm.trans (e2 xs sq')
  cases this
  exact ⟨P, O, R, by simpa [RepF] using rx⟩
theorem yields_tup {a : Addr} {ds : List D} (hz : ds.length ≤ sizeLine) : Yields K W false (Itt K a) ds [.ref a] [.sh (.tup ds)] := by
  refine ⟨hz, rfl, noAt_sh _, fun P₀ H₀ σ st ρ rs τ ts H g hl R => ?_⟩
  obtain ⟨P, O, R⟩ := R
  have c : Rep K W P (.tup ds) (.ref a) := R.cell hl
  simp only [Rep] at c
  obtain ⟨a', xs, e, sq, _, rp⟩ := c
  cases e
  have sq' := R.sub.sqT sq.sq
  refine ⟨fun i d e => ?_, fun i hi => ⟨xs, sq', by rw [rp.length]; exact hi⟩⟩
  obtain ⟨x, ex, rx⟩ := rp.get e
  refine ⟨⟨xs, x, sq', ex⟩, fun y H' ⟨e1, e2⟩ => ?_⟩
  subst e1
  have : some x = some y := ex.symm.trans (e2 xs sq')
  cases this
  exact ⟨P, O, R, by simpa [RepF] using rx⟩
def chars (x : Str) : List D := x.cps.toList.map fun c => D.str ⟨#[c]⟩
theorem yields_str {x : Str} (hz : x.cps.size ≤ sizeLine) : Yields K W false (Its x) (chars x) [] [] := by
  refine ⟨by simpa [chars] using hz, rfl, (fun i h => by cases h), fun P₀ H₀ σ st ρ rs τ ts H g hl R => ⟨fun i d e => ?_, fun i hi => show x.cps.size ≤ i by simpa [chars] using hi⟩⟩
  simp only [chars, List.getElem?_map, Array.getElem?_toList] at e
  obtain ⟨c, e1, rfl⟩ := Option.map_eq_some_iff.mp e
  refine ⟨?_, fun y H' ⟨e2, c', e3, e4⟩ => ?_⟩
  · exact (Array.getElem?_eq_some_iff.mp e1).1
  · subst e2
    rw [e1] at e3; cases e3
    obtain ⟨P, O, R⟩ := R
    exact ⟨P, O, R, by simp [RepF, Rep, e4]⟩
def rangeD (lo : Int) (n : Nat) : List D := (List.range n).map fun (i : Nat) => D.int (lo + (i : Int))
theorem yields_range {lo : Int} {n : Nat} (hz : n ≤ sizeLine) : Yields K W false (Itr lo n) (rangeD lo n) [] [] := by
  refine ⟨by simpa [rangeD] using hz, rfl, (fun i h => by cases h), fun P₀ H₀ σ st ρ rs τ ts H g hl R => ⟨fun i d e => ?_, fun i hi => show n ≤ i by simpa [rangeD] using hi⟩⟩
  have hi : i < n := by
    have := (List.getElem?_eq_some_iff.mp e).1
    simpa [rangeD] using this
  refine ⟨hi, fun y H' ⟨e2, e3⟩ => ?_⟩
  subst e2
  simp only [rangeD, List.getElem?_map, List.getElem?_range hi, Option.map_some, Option.some.injEq] at e
  obtain ⟨P, O, R⟩ := R
  subst e
  exact ⟨P, O, R, by rw [e3]; simp [RepF, Rep]⟩
/-- a new pair, made by what is walked -/
theorem Rel.pair {x y : V} {dx dy : D} {T : Addr} (R : RelB K W P₀ H₀ P O σ st τ ts H g) (hT : H T = none) (hx : Rep K W P dx x) (hy : Rep K W P dy y) :
    ∃ P' O', RelB K W P₀ H₀ P' O' σ st τ ts (upd H T (.tup [x, y])) g ∧ RepF K W P' true (.tup [dx, dy]) (.ref T) := by
  have pn : P T = none := by
    cases e : P T with
    | none => rfl
    | some u => have := R.sub _ _ e; rw [hT] at this; cases this
  have sP : SubP P (updP P T (.tup [x, y])) := SubP.upd pn
  refine ⟨_, O, R.laid hT, ?_⟩
  simp only [RepF, if_true, RepA]
  refine ⟨T, _, rfl, SqT.of upd_same, ?_⟩
  simp only [Reps]
  exact ⟨x, _, rfl, Rep.mono sP _ _ hx, y, _, rfl, Rep.mono sP _ _ hy, rfl⟩
def zipD (xs ys : List D) : List D := List.zipWith (fun x y => D.tup [x, y]) xs ys
def enumD (ds : List D) : List D := ds.mapIdx fun i d => D.tup [.int (i : Nat), d]
theorem yields_enum {a : Addr} {ds : List D} (hz : ds.length ≤ sizeLine) : Yields K W true (Ite K a) (enumD ds) [.ref a] [.sh (.lst ds)] := by
  refine ⟨by simp [enumD]; exact hz, rfl, noAt_sh _, fun P₀ H₀ σ st ρ rs τ ts H g hl R => ?_⟩
  obtain ⟨P, O, R⟩ := R
  have c : Rep K W P (.lst ds) (.ref a) := R.cell hl
  simp only [Rep] at c
  obtain ⟨a', xs, e, sq, _, rp⟩ := c
  cases e
  have sq' : SqL K H a xs := SqL.of (R.sub _ _ sq)
  refine ⟨fun i d e => ?_, fun i hi => ⟨xs, sq', by rw [rp.length]; simpa [enumD] using hi⟩⟩
  simp only [enumD, List.getElem?_mapIdx] at e
  obtain ⟨dx, ex, rfl⟩ := Option.map_eq_some_iff.mp e
  obtain ⟨x, ex1, rx⟩ := rp.get ex
  refine ⟨⟨xs, x, sq', ex1⟩, fun z H' ⟨T, x', e1, hT, e2, f1⟩ => ?_⟩
  have h1 : some x = some x' := ex1.symm.trans (f1 xs sq')
  cases h1
  subst e1 e2
  exact Rel.pair R hT (by simp [Rep]) rx
end
/-! ### sources -/
def srcSeq (f : M G S) : M G (List D × List S) := fun st g => bnd (mTake f st g) fun d st g => match d with
  | .lst ds => some ((ds, [.sh (.lst ds)]), st, g)
  | .tup ds => some ((ds, [.sh (.tup ds)]), st, g)
  | .str x => if x.cps.size ≤ sizeLine then some ((chars x, []), st, g) else none
  | _ => none
theorem PI.or {X : Cx} {tg e : Expr} {wi wj : TI} (h : PI X tg e wi) (h' : PI X tg e wj) : PI X tg e (fun σ H R => wi σ H R ∨ wj σ H R) :=
  ⟨fun pins s σ H R I q => q.elim (h.run pins s σ H R I) (h'.run pins s σ H R I)⟩
section
variable {C : CF} {Fam : Wd G → Prop} {tg e e2 : Expr} {es : List Expr} {pos p tpos : Pos}
theorem i_seq {f : M G S} (he : DE C Fam e f) : DI C Fam false tg e (srcSeq f) := by
  obtain ⟨ta, pa, ea⟩ := he.ex
  refine ⟨fun σ H R => iList C.K ta σ H R ∨ iTup C.K ta σ H R ∨ iStr ta σ H R, fun j => PI.or (by rw [← C.hK j]; exact pi_list (pa j)) (PI.or (by rw [← C.hK j]; exact pi_tup (pa j)) (pi_str (pa j))), fun W hW P₀ H₀ σ st τ ts H g items cells st' g' R Rl h q => ?_⟩
  obtain ⟨d, st1, g1, e1, h⟩ := bnd_eq h
  obtain ⟨x, st0, e3, e4⟩ := mTake_eq e1
  cases d with
  | lst ds =>
    simp only [Option.some.injEq, Prod.mk.injEq] at h; obtain ⟨⟨rfl, rfl⟩, rfl, rfl⟩ := h
    refine .inl (ea W hW _ _ _ _ _ _ _ _ _ _ _ _ Rl e3 fun v H1 R1 => ?_)
    obtain ⟨P, O, R1⟩ := R1
    obtain ⟨P', O', R1⟩ := R1.takeV e4
    have c : Rep C.K W P' (.lst ds) v := R1.temps.1
    simp only [Rep] at c
    obtain ⟨a, xs, rfl, sq, hz, rp⟩ := c
    exact ⟨a, rfl, ⟨xs, SqL.of (R1.sub _ _ sq)⟩, q _ [.ref a] _ ⟨P', O', R1⟩ (yields_lst hz)⟩
  | tup ds =>
    simp only [Option.some.injEq, Prod.mk.injEq] at h; obtain ⟨⟨rfl, rfl⟩, rfl, rfl⟩ := h
    refine .inr (.inl (ea W hW _ _ _ _ _ _ _ _ _ _ _ _ Rl e3 fun v H1 R1 => ?_))
    obtain ⟨P, O, R1⟩ := R1
    obtain ⟨P', O', R1⟩ := R1.takeV e4
    have c : Rep C.K W P' (.tup ds) v := R1.temps.1
    simp only [Rep] at c
    obtain ⟨a, xs, rfl, sq, hz, rp⟩ := c
    exact ⟨a, rfl, ⟨xs, R1.sub.sqT sq.sq⟩, q _ [.ref a] _ ⟨P', O', R1⟩ (yields_tup hz)⟩
  | str y =>
    simp only at h
    split at h
    · rename_i hz
      simp only [Option.some.injEq, Prod.mk.injEq] at h; obtain ⟨⟨rfl, rfl⟩, rfl, rfl⟩ := h
      refine .inr (.inr (ea W hW _ _ _ _ _ _ _ _ _ _ _ _ Rl e3 fun v H1 R1 => ?_))
      obtain ⟨P, O, R1⟩ := R1
      obtain ⟨P', O', R1⟩ := R1.takeV e4
      have c : Rep C.K W P' (.str y) v := R1.temps.1
      simp only [Rep] at c
      exact ⟨y, c, q _ [] _ ⟨P', O', R1.pop⟩ (yields_str hz)⟩
    · cases h
  | _ => cases h
def srcRange1 (f : M G S) : M G (List D × List S) := fun st g => bnd (mTake f st g) fun d st g => match d with
  | .int j => if -(2 ^ 62) ≤ j ∧ j < 2 ^ 62 ∧ j.toNat ≤ sizeLine then some ((rangeD 0 j.toNat, []), st, g) else none
  | _ => none
theorem i_range1 {f : M G S} (he : DE C Fam e f) (hg : ∀ j, Gl (C.X j) "range" := by intro _; rfl) (hm : C.mg "range" = none) (hs : ∀ j, starEach [e] (C.X j).env = [(false, eval e (C.X j).env)] := by intro _; rfl) :
    DI C Fam false tg (.Call (.Name "range" p) [e] [] pos) (srcRange1 f) := by
  obtain ⟨ta, pa, ea⟩ := he.ex
  refine ⟨_, fun j => pi_range1 (hg j) (by rw [C.hmg j]; exact hm) (pa_cons (pa j) pa_nil (hs j)) (hs j), fun W hW P₀ H₀ σ st τ ts H g items cells st' g' R Rl h q => ?_⟩
  obtain ⟨d, st1, g1, e1, h⟩ := bnd_eq h
  obtain ⟨x, st0, e3, e4⟩ := mTake_eq e1
  cases d with
  | int i =>
    simp only at h
    split at h
    · rename_i hz
      simp only [Option.some.injEq, Prod.mk.injEq] at h; obtain ⟨⟨rfl, rfl⟩, rfl, rfl⟩ := h
      refine ea W hW _ _ _ _ _ _ _ _ _ _ _ _ Rl e3 fun v H1 R1 => ?_
      obtain ⟨P, O, R1⟩ := R1
      obtain ⟨P', O', R1⟩ := R1.takeV e4
      have c : Rep C.K W P' (.int i) v := R1.temps.1
      simp only [Rep] at c
      exact ⟨i, by rw [c], hz.1, hz.2.1, q _ [] _ ⟨P', O', R1.pop⟩ (yields_range hz.2.2)⟩
    · cases h
  | _ => cases h
def srcRange2 (f f2 : M G S) : M G (List D × List S) := fun st g => bnd (mTake f st g) fun d st g => bnd (mTake f2 st g) fun d2 st g => match d, d2 with
  | .int i, .int j => if (-(2 ^ 62) ≤ i ∧ i < 2 ^ 62) ∧ (-(2 ^ 62) ≤ j ∧ j < 2 ^ 62) ∧ (j - i).toNat ≤ sizeLine then some ((rangeD i (j - i).toNat, []), st, g) else none
  | _, _ => none
def srcZip (fa : M G (List D)) : M G (List D × List S) := fun st g => bnd (fa st g) fun ds st g => match ds with
  | [.lst xs, .lst ys] => some ((zipD xs ys, [.sh (.lst xs), .sh (.lst ys)]), st, g)
  | [.tup xs, .tup ys] => some ((zipD xs ys, [.sh (.tup xs), .sh (.tup ys)]), st, g)
  | _ => none
def srcEnum (f : M G S) : M G (List D × List S) := fun st g => bnd (mTake f st g) fun d st g => match d with
  | .lst ds => some ((enumD ds, [.sh (.lst ds)]), st, g)
  | _ => none
theorem i_enum {elts : List Expr} {kk : Nat} {f : M G S} (he : DE C Fam e f) (hm : C.mg "enumerate" = none) (hg : ∀ j, Gl (C.X j) "enumerate" := by intro _; rfl) (hs : ∀ j, starEach [e] (C.X j).env = [(false, eval e (C.X j).env)] := by intro _; rfl) :
    DI C Fam true (.Tuple elts kk tpos) (.Call (.Name "enumerate" p) [e] [] pos) (srcEnum f) := by
  obtain ⟨ta, pa, ea⟩ := he.ex
  refine ⟨iEnum C.K (tCons ta tNil), fun j => by rw [← C.hK j]; exact pi_enum (hg j) (by rw [C.hmg j]; exact hm) (pa_cons (pa j) pa_nil (hs j)) (hs j), fun W hW P₀ H₀ σ st τ ts H g items cells st' g' R Rl h q => ?_⟩
  obtain ⟨d, st1, g1, e1, h⟩ := bnd_eq h
  obtain ⟨x, st0, e3, e4⟩ := mTake_eq e1
  cases d with
  | lst ds =>
    simp only [Option.some.injEq, Prod.mk.injEq] at h; obtain ⟨⟨rfl, rfl⟩, rfl, rfl⟩ := h
    refine ea W hW _ _ _ _ _ _ _ _ _ _ _ _ Rl e3 fun v H1 R1 => ?_
    obtain ⟨P, O, R1⟩ := R1
    obtain ⟨P', O', R1⟩ := R1.takeV e4
    have c : Rep C.K W P' (.lst ds) v := R1.temps.1
    simp only [Rep] at c
    obtain ⟨a, xs, rfl, sq, hz, rp⟩ := c
    exact ⟨a, xs, rfl, SqL.of (R1.sub _ _ sq), q _ [.ref a] _ ⟨P', O', R1⟩ (yields_enum hz)⟩
  | _ => cases h
end
end DL
/-! DX0: tuples are sorted, empty ones among them. -/
namespace DX
open PySem PySem.W PyProof.Rows PySem.SeqAt
end DX
/-! DX: sets of keys, made of a list or a tuple. -/
namespace DX
open PySem PySem.Spec PyProof.Rows L2
/-- what the first i of ks have brought in -/
structure Has {κ : Type} (ks : List (Value × κ)) (i : Nat) (L : List (Value × κ)) : Prop where
  sub : ∀ p ∈ L, p ∈ ks.take i
  all : ∀ p ∈ ks.take i, p.2 ∈ L.map (·.2)
  nd : (L.map (·.2)).Nodup
  len : L.length ≤ i
theorem Has.start {κ : Type} (ks : List (Value × κ)) : Has ks 0 [] := ⟨by simp, by simp, by simp, Nat.le_refl _⟩
theorem Has.next {κ : Type} {ks L L' : List (Value × κ)} {i : Nat} {v : Value} {k : κ} (g : Has ks i L) (h : ks[i]? = some (v, k)) (h1 : k ∈ L.map (·.2) → L' = L) (h2 : k ∉ L.map (·.2) → L'.Perm ((v, k) :: L)) : Has ks (i + 1) L' := by
  have tk : ks.take (i + 1) = ks.take i ++ [(v, k)] := by
    have := List.take_succ (l := ks) (i := i)
    rw [this, h]; rfl
  by_cases c : k ∈ L.map (·.2)
  · rw [h1 c]
    exact ⟨fun p hp => by rw [tk]; exact List.mem_append_left _ (g.sub p hp), fun p hp => by
      rw [tk] at hp
      rcases List.mem_append.mp hp with z | z
      · exact g.all p z
      · simp only [List.mem_singleton] at z; rw [z]; exact c, g.nd, Nat.le_succ_of_le g.len⟩
  · have pm := h2 c
    refine ⟨fun p hp => ?_, fun p hp => ?_, ?_, by rw [pm.length_eq]; have := g.len; simp; omega⟩
    · rw [tk]
      rcases List.mem_cons.mp (pm.mem_iff.mp hp) with e | z
      · rw [e]; simp
      · exact List.mem_append_left _ (g.sub p z)
    · rw [(pm.map (·.2)).mem_iff]
      rw [tk] at hp
      rcases List.mem_append.mp hp with z | z
      · exact List.mem_cons_of_mem _ (g.all p z)
      · simp only [List.mem_singleton] at z; rw [z]; simp
    · exact (pm.map (·.2)).nodup_iff.mpr (List.nodup_cons.mpr ⟨c, g.nd⟩)
end DX
namespace DX
open PySem PySem.Spec PyProof.Rows L2
end DX
namespace DX
open PySem PySem.Spec PyProof.Rows L2
/-- the state of a set, whatever its things are -/
structure Sat (w : World) (h : Heap) (S : Addr) (es : Array (Int × Value)) (ep : Nat) (t : SetTable) : Prop where
  ob : ∃ o, h.get? S = some o ∧ o.ExactSet ∧ o.data = .set es ep t
  few : es.size < scanBound
  fits : t.fits es.size = true
  ris : Ris t.place.toList
  led : w.params.followText "set-order" = true ∨ t.led = true
theorem Sat.at {w : World} {h h' : Heap} {S : Addr} {es : Array (Int × Value)} {ep : Nat} {t : SetTable} (x : Sat w h S es ep t) (k : ∀ o, h.get? S = some o → h'.get? S = some o) : Sat w h' S es ep t :=
  let ⟨o, ho, r⟩ := x.ob
  ⟨⟨o, k o ho, r⟩, x.few, x.fits, x.ris, x.led⟩
end DX
namespace DX
open PySem PySem.Spec PyProof.Rows L2
end DX
namespace DL
open PySem PySem.Spec L2
variable {G : Type}
section
variable {K : PySem.W.Frag} {W : Wd G} {P₀ P : PM} {H₀ H : Hp} {O : Addr → Option Tag} {σ : L2.St} {st st' : Sl} {τ : List V} {ts : List S} {g : G} {v : V} {d : D} {p : Addr}
theorem RelB.ofSh (R : RelB K W P₀ H₀ P O σ st τ ts H g) (h : Rep K W P d v) : Rel K W P₀ H₀ σ st (v :: τ) (.sh d :: ts) H g := ⟨P, O, R.push h⟩
theorem RelB.pnone (R : RelB K W P₀ H₀ P O σ st τ ts H g) (hp : H p = none) : P p = none := by
  cases e : P p with
  | none => rfl
  | some u => have := R.sub _ _ e; rw [hp] at this; cases this
theorem RelB.newTup {ds : List D} {xs : List V} {ob : Obj} (R : RelB K W P₀ H₀ P O σ st τ ts H g) (hp : H p = none) (hd : ob.dict = none) (rs : Reps K W P ds xs) (hz : ds.length ≤ sizeLine) : Rel K W P₀ H₀ σ st (.ref p :: τ) (.sh (.tup ds) :: ts) (upd H p (.frz ob (.tup xs))) g := by
  have pn := R.pnone hp
  refine ⟨_, O, (R.laid hp).push ?_⟩
  simp only [Rep]
  exact ⟨p, xs, rfl, .new upd_same hd, hz, Reps.mono (SubP.upd pn) _ _ rs⟩
theorem RelB.newLst {ds : List D} {xs : List V} (R : RelB K W P₀ H₀ P O σ st τ ts H g) (hp : H p = none) (rs : Reps K W P ds xs) (hz : ds.length ≤ sizeLine) : Rel K W P₀ H₀ σ st (.ref p :: τ) (.ow (.lst ds) :: ts) (upd H p (.lst xs)) g := by
  obtain ⟨O', R2⟩ := R.laidOwn (d := .lst ds) hp ⟨xs, rfl, hz, rs⟩
  exact ⟨P, O', R2⟩
@[simp] theorem rep_int {i : Int} : Rep K W P (.int i) v ↔ v = .int i := by simp only [Rep]
@[simp] theorem rep_str {x : Str} : Rep K W P (.str x) v ↔ v = .str x := by simp only [Rep]
@[simp] theorem rep_blk {b : Bool} : Rep K W P (.bl b) v ↔ v = .bl b := by simp only [Rep]
@[simp] theorem rep_non : Rep K W P .non v ↔ v = .non := by simp only [Rep]
@[simp] theorem rd1_int {i : Int} : Rd1 K W P H (.int i) v ↔ v = .int i := by simp only [Rd1, Rep]
@[simp] theorem rd1_str {x : Str} : Rd1 K W P H (.str x) v ↔ v = .str x := by simp only [Rd1, Rep]
@[simp] theorem rd1_bl {b : Bool} : Rd1 K W P H (.bl b) v ↔ v = .bl b := by simp only [Rd1, Rep]
@[simp] theorem rd1_non : Rd1 K W P H .non v ↔ v = .non := by simp only [Rd1, Rep]
theorem rd1_tup {ds : List D} : Rd1 K W P H (.tup ds) v ↔ ∃ a xs, v = .ref a ∧ DY.TupP K P a xs ∧ ds.length ≤ sizeLine ∧ Reps K W P ds xs := by simp only [Rd1, Rep]
theorem rd1_lst {ds : List D} : Rd1 K W P H (.lst ds) v ↔ ∃ a xs, v = .ref a ∧ H a = some (.lst xs) ∧ ds.length ≤ sizeLine ∧ Reps K W P ds xs := by simp only [Rd1]
end
/-! ### + - * // % ** -/
def opAdd : D → D → Option S
  | .int a, .int b => some (.sh (.int (a + b)))
  | .str a, .str b => if a.length + b.length ≤ sizeLine then some (.sh (.str (a ++ b))) else none
  | .tup a, .tup b => if a.length + b.length ≤ sizeLine then some (.sh (.tup (a ++ b))) else none
  | .lst a, .lst b => if a.length + b.length ≤ sizeLine then some (.ow (.lst (a ++ b))) else none
  | _, _ => none
def rAddD (K : PySem.W.Frag) : R2 := fun x y H Q => rI0 (fun i j => .int (i + j)) x y H Q ∨ (∃ i j, x = .str i ∧ y = .str j ∧ i.length + j.length ≤ sizeLine ∧ Q (.str (i ++ j)) H) ∨ DY.rCatF K x y H Q ∨ rCat x y H Q
theorem b_add {K : PySem.W.Frag} {W : Wd G} : B2 K W (rAddD K) opAdd := by
  intro P₀ H₀ P O σ st τ ts H g x y dx dy z Q R rx ry h q
  cases dx with
  | int a =>
    cases dy with
    | int b =>
      simp only [opAdd, Option.some.injEq] at h; subst h
      rw [rd1_int] at rx ry
      exact .inl ⟨a, b, rx, ry, q _ _ (R.ofSh (by simp))⟩
    | _ => cases h
  | str a =>
    cases dy with
    | str b =>
      simp only [opAdd] at h
      split at h
      · rename_i hz
        simp only [Option.some.injEq] at h; subst h
        rw [rd1_str] at rx ry
        exact .inr (.inl ⟨a, b, rx, ry, hz, q _ _ (R.ofSh (by simp))⟩)
      · cases h
    | _ => cases h
  | tup a =>
    cases dy with
    | tup b =>
      simp only [opAdd] at h
      split at h
      · rename_i hz
        simp only [Option.some.injEq] at h; subst h
        have r1 : Rep K W P (.tup a) x := rx
        have r2 : Rep K W P (.tup b) y := ry
        obtain ⟨pa, xs, ex, sx, zx, rsx⟩ := rd1_tup.mp rx
        obtain ⟨pb, ys, ey, sy, zy, rsy⟩ := rd1_tup.mp ry
        subst ex ey
        refine .inr (.inr (.inl ⟨pa, pb, xs, ys, rfl, rfl, R.sub.sqT sx.sq, R.sub.sqT sy.sq, by rw [rsx.length, rsy.length]; exact hz, fun e => ?_, fun _ e => ?_, fun _ _ p ob hp hd => q _ _ (R.newTup hp hd (rsx.append rsy) (by simpa using hz))⟩))
        · have : a = [] := by have := rsx.length; rw [e] at this; exact List.length_eq_zero_iff.mp this.symm
          subst this
          exact q _ _ (R.ofSh r2)
        · have : b = [] := by have := rsy.length; rw [e] at this; exact List.length_eq_zero_iff.mp this.symm
          subst this
          exact q _ _ (R.ofSh (by rw [List.append_nil]; exact r1))
      · cases h
    | _ => cases h
  | lst a =>
    cases dy with
    | lst b =>
      simp only [opAdd] at h
      split at h
      · rename_i hz
        simp only [Option.some.injEq] at h; subst h
        obtain ⟨pa, xs, ex, sx, zx, rsx⟩ := rd1_lst.mp rx
        obtain ⟨pb, ys, ey, sy, zy, rsy⟩ := rd1_lst.mp ry
        subst ex ey
        exact .inr (.inr (.inr ⟨pa, pb, xs, ys, rfl, rfl, sx, sy, by rw [rsx.length, rsy.length]; exact hz, fun p hp => q _ _ (R.newLst hp (rsx.append rsy) (by simpa using hz))⟩))
      · cases h
    | _ => cases h
  | _ => cases h
section
variable {C : CF} {Fam : Wd G → Prop} {a b : Expr} {fa fb : M G S} {pos : Pos}
theorem d_add (ha : DE C Fam a fa) (hb : DE C Fam b fb) : DE C Fam (.BinOp a .Add b pos) (mOp opAdd fa fb) :=
  d_op (fun j => op_add.or (op_add_str.or ((by rw [← C.hK j]; exact DY.op_catF : OpR (C.X j) (binaryOp .Add) (DY.rCatF C.K)).or op_cat))) (fun _ _ => b_add) ha hb
end
/-- operators of two ints -/
def opI2 (c : Int → Int → Bool) (f : Int → Int → D) : D → D → Option S
  | .int a, .int b => if c a b = true then some (.sh (f a b)) else none
  | _, _ => none
theorem b_i2 {K : PySem.W.Frag} {W : Wd G} {c : Int → Int → Bool} {f : Int → Int → D} {r : R2} {k : Int → Int → V} (hk : ∀ a b P, Rep K W P (f a b) (k a b)) (hr : ∀ a b H (Q : VK), c a b = true → Q (k a b) H → r (.int a) (.int b) H Q) : B2 K W r (opI2 c f) := by
  intro P₀ H₀ P O σ st τ ts H g x y dx dy z Q R rx ry h q
  cases dx with
  | int a =>
    cases dy with
    | int b =>
      simp only [opI2] at h
      split at h
      · rename_i hc
        simp only [Option.some.injEq] at h; subst h
        rw [rd1_int] at rx ry; subst rx ry
        exact hr a b H Q hc (q _ _ (R.ofSh (hk a b P)))
      · cases h
    | _ => cases h
  | _ => cases h
def okMul (i j : Int) : Bool := decide (i.natAbs.log2 + j.natAbs.log2 < 1000000)
def opMul : D → D → Option S
  | .int a, .int b => if okMul a b = true then some (.sh (.int (a * b))) else none
  | .lst a, .int k => if -(2 ^ 63) ≤ k ∧ k < 2 ^ 63 ∧ a.length * k.toNat ≤ sizeLine then some (.ow (.lst (List.replicate k.toNat a).flatten)) else none
  | _, _ => none
def okDiv (i j : Int) : Bool := decide (0 < j ∧ j.natAbs.log2 < 9000)
abbrev opFdiv : D → D → Option S := opI2 okDiv fun a b => .int (a / b)
abbrev opMod : D → D → Option S := opI2 (fun _ b => decide (0 < b)) fun a b => .int (a % b)
def okPow (i j : Int) : Bool := decide (0 ≤ j ∧ j ≤ 1000000 ∧ i.natAbs < 2 ^ 64)
abbrev opPow : D → D → Option S := opI2 okPow fun a b => .int (a ^ b.toNat)
theorem Reps.rep {K : PySem.W.Frag} {W : Wd G} {P : PM} {ds : List D} {xs : List V} (h : Reps K W P ds xs) : ∀ n : Nat, Reps K W P (List.replicate n ds).flatten (List.replicate n xs).flatten
  | 0 => by simp [Reps]
  | n + 1 => by rw [List.replicate_succ, List.replicate_succ, List.flatten_cons, List.flatten_cons]; exact h.append (Reps.rep h n)
theorem b_mul {K : PySem.W.Frag} {W : Wd G} : B2 K W (fun x y H Q => rI CMulW (fun i j => .int (i * j)) x y H Q ∨ rRep x y H Q) opMul := by
  intro P₀ H₀ P O σ st τ ts H g x y dx dy z Q R rx ry h q
  cases dx with
  | int a =>
    cases dy with
    | int b =>
      simp only [opMul] at h
      split at h
      · rename_i hc
        simp only [Option.some.injEq] at h; subst h
        rw [rd1_int] at rx ry; subst rx ry
        exact .inl ⟨a, b, rfl, rfl, (show CMulW a b from (by simpa [okMul] using hc : a.natAbs.log2 + b.natAbs.log2 < 1000000)), q _ _ (R.ofSh (by simp))⟩
      · cases h
    | _ => cases h
  | lst a =>
    cases dy with
    | int k =>
      simp only [opMul] at h
      split at h
      · rename_i hc
        simp only [Option.some.injEq] at h; subst h
        rw [rd1_int] at ry; subst ry
        obtain ⟨pa, xs, ex, sx, zx, rsx⟩ := rd1_lst.mp rx
        subst ex
        exact .inr ⟨pa, k, xs, rfl, rfl, sx, hc.1, hc.2.1, by rw [rsx.length]; exact hc.2.2, fun p hp => q _ _ (R.newLst hp (rsx.rep _) (by simp; rw [Nat.mul_comm]; exact hc.2.2))⟩
      · cases h
    | _ => cases h
  | _ => cases h
section
variable {C : CF} {Fam : Wd G → Prop} {a b : Expr} {fa fb : M G S} {pos : Pos}
theorem d_mul (ha : DE C Fam a fa) (hb : DE C Fam b fb) : DE C Fam (.BinOp a .Mult b pos) (mOp opMul fa fb) :=
  d_op (fun j => op_mulW.or op_rep) (fun _ _ => b_mul) ha hb
theorem d_fdiv (ha : DE C Fam a fa) (hb : DE C Fam b fb) : DE C Fam (.BinOp a .FloorDiv b pos) (mOp opFdiv fa fb) :=
  d_op (fun j => op_fdivW) (fun _ _ => b_i2 (k := fun a b => .int (a / b)) (fun a b P => by simp) fun a b H Q h q => ⟨a, b, rfl, rfl, (show CDivW a b from (by simpa [okDiv] using h : 0 < b ∧ b.natAbs.log2 < 9000)), q⟩) ha hb
theorem d_mod (ha : DE C Fam a fa) (hb : DE C Fam b fb) : DE C Fam (.BinOp a .Mod b pos) (mOp opMod fa fb) :=
  d_op (fun j => op_mod) (fun _ _ => b_i2 (k := fun a b => .int (a % b)) (fun a b P => by simp) fun a b H Q h q => ⟨a, b, rfl, rfl, of_decide_eq_true h, q⟩) ha hb
theorem d_pow (ha : DE C Fam a fa) (hb : DE C Fam b fb) : DE C Fam (.BinOp a .Pow b pos) (mOp opPow fa fb) :=
  d_op (fun j => op_pow) (fun _ _ => b_i2 (k := fun a b => .int (a ^ b.toNat)) (fun a b P => by simp) fun a b H Q h q => ⟨a, b, rfl, rfl, (show CPow a b from (by simpa [okPow] using h : 0 ≤ b ∧ b ≤ 1000000 ∧ a.natAbs < 2 ^ 64)), q⟩) ha hb
def opNeg : D → Option S
  | .int a => some (.sh (.int (-a)))
  | _ => none
theorem d_neg (ha : DE C Fam a fa) : DE C Fam (.UnaryOp .USub a pos) (mUn opNeg fa) :=
  d_un (fun j => un_neg) (fun W _ P₀ H₀ P O σ st τ ts H g x dx z Q R rx h q => by
    cases dx with
    | int a =>
      simp only [opNeg, Option.some.injEq] at h; subst h
      rw [rd1_int] at rx
      exact ⟨a, rx, q _ _ (R.ofSh (by simp))⟩
    | _ => cases h) ha
end
/-! ### data: ==, <, in -/
mutual
def D.py : D → PyData
  | .non => .none
  | .bl b => .bool b
  | .int i => .int i
  | .str x => .str x
  | .tup xs => .tuple (D.pys xs)
  | .lst xs => .list (D.pys xs)
  | .dct _ => .none
  | .dcn _ => .none
  | .obj _ => .none
def D.pys : List D → List PyData
  | [] => []
  | d :: ds => d.py :: D.pys ds
end
mutual
/-- no dict, no object within -/
def D.pl : D → Bool
  | .non => true
  | .bl _ => true
  | .int _ => true
  | .str _ => true
  | .tup xs => D.pls xs
  | .lst xs => D.pls xs
  | .dct _ => false
  | .dcn _ => false
  | .obj _ => false
def D.pls : List D → Bool
  | [] => true
  | d :: ds => d.pl && D.pls ds
end
mutual
theorem Rep.dp {K : PySem.W.Frag} {W : Wd G} {P : PM} {H : Hp} (s : Sub P H) : ∀ (d : D) (v : V), d.pl = true → Rep K W P d v → Dp K H v d.py
  | .non, v, _, h => by rw [rep_non] at h; subst h; simp only [D.py]; exact .non
  | .bl b, v, _, h => by rw [rep_blk] at h; subst h; simp only [D.py]; exact .bl b
  | .int i, v, _, h => by rw [rep_int] at h; subst h; simp only [D.py]; exact .int i
  | .str x, v, _, h => by rw [rep_str] at h; subst h; simp only [D.py]; exact .str x
  | .tup ds, v, hp, h => by
    simp only [Rep] at h
    obtain ⟨a, xs, rfl, sq, _, r⟩ := h
    simp only [D.pl] at hp
    simp only [D.py]
    exact .tup (s.sqT sq.sq) (Reps.dp s ds xs hp r)
  | .lst ds, v, hp, h => by
    simp only [Rep] at h
    obtain ⟨a, xs, rfl, sq, _, r⟩ := h
    simp only [D.pl] at hp
    simp only [D.py]
    exact .lst (SqL.of (s _ _ sq)) (Reps.dp s ds xs hp r)
  | .dct _, v, hp, h => by simp [D.pl] at hp
  | .dcn _, v, hp, h => by simp [D.pl] at hp
  | .obj _, v, hp, h => by simp [D.pl] at hp
theorem Reps.dp {K : PySem.W.Frag} {W : Wd G} {P : PM} {H : Hp} (s : Sub P H) : ∀ (ds : List D) (vs : List V), D.pls ds = true → Reps K W P ds vs → DpAll K H vs (D.pys ds)
  | [], vs, _, h => by simp only [Reps] at h; subst h; simp only [D.pys]; exact .nil
  | d :: ds, vs, hp, h => by
    simp only [Reps] at h
    obtain ⟨v, r, rfl, h1, h2⟩ := h
    simp only [D.pls, Bool.and_eq_true] at hp
    simp only [D.pys]
    exact .cons (Rep.dp s d v hp.1 h1) (Reps.dp s ds r hp.2 h2)
end
theorem Rd1.dp {K : PySem.W.Frag} {W : Wd G} {P : PM} {H : Hp} (s : Sub P H) {d : D} {v : V} (hp : d.pl = true) (h : Rd1 K W P H d v) : Dp K H v d.py := by
  cases d with
  | lst ds =>
    obtain ⟨a, xs, rfl, sq, _, r⟩ := h
    simp only [D.pl] at hp
    simp only [D.py]
    exact .lst (SqL.of sq) (Reps.dp s ds xs hp r)
  | dct _ => simp [D.pl] at hp
  | dcn _ => simp [D.pl] at hp
  | _ => exact Rep.dp (W := W) s _ _ hp h
mutual
theorem D.plain_of : ∀ d : D, d.pl = true → d.py.plain = true
  | .non, _ => rfl
  | .bl _, _ => rfl
  | .int _, _ => rfl
  | .str _, _ => rfl
  | .tup ds, h => by simp only [D.pl] at h; simp only [D.py, PyData.plain]; exact D.plains_of ds h
  | .lst ds, h => by simp only [D.pl] at h; simp only [D.py, PyData.plain]; exact D.plains_of ds h
  | .dct _, h => by simp [D.pl] at h
  | .dcn _, h => by simp [D.pl] at h
  | .obj _, h => by simp [D.pl] at h
theorem D.plains_of : ∀ ds : List D, D.pls ds = true → PyData.plainAll (D.pys ds) = true
  | [], _ => rfl
  | d :: ds, h => by
    simp only [D.pls, Bool.and_eq_true] at h
    simp only [D.pys, PyData.plainAll, Bool.and_eq_true]
    exact ⟨D.plain_of d h.1, D.plains_of ds h.2⟩
end
def eqD (a b : D) : Bool := PyData.eqv a.py b.py
def okEq (a b : D) : Bool := a.pl && b.pl && decide (min a.py.depth b.py.depth ≤ 100)
def opEq (a b : D) : Option S := if okEq a b = true then some (.sh (.bl (eqD a b))) else none
def opNe (a b : D) : Option S := if okEq a b = true then some (.sh (.bl (!eqD a b))) else none
def rEqP (K : PySem.W.Frag) (neg : Bool) : R2 := fun x y H Q => ∃ d e, Dp K H x d ∧ Dp K H y e ∧ d.plain = true ∧ e.plain = true ∧ min d.depth e.depth ≤ 100 ∧ Q (.bl (if neg then !PyData.eqv d e else PyData.eqv d e)) H
section
variable {X : Cx}
theorem op_eqP (hu : X.A.units + 150 < cLine) : OpR X (compareOp .Eq) (rEqP X.K false) := by
  intro pins s σ H x y v u Q I rx ry h
  obtain ⟨d, e, hd, he, pd, pe, hz, q⟩ := h
  obtain ⟨as, r1⟩ := Dp.reads I d x v hd rx
  obtain ⟨bs, r2⟩ := Dp.reads I e y u he ry
  exact SeqAt.eq_plain r1 r2 pd pe (by omega) ⟨.bl _, H, I, rfl, q⟩
theorem op_neP (hu : X.A.units + 150 < cLine) : OpR X (compareOp .NotEq) (rEqP X.K true) := by
  intro pins s σ H x y v u Q I rx ry h
  obtain ⟨d, e, hd, he, pd, pe, hz, q⟩ := h
  obtain ⟨as, r1⟩ := Dp.reads I d x v hd rx
  obtain ⟨bs, r2⟩ := Dp.reads I e y u he ry
  exact SeqAt.ne_plain r1 r2 pd pe (by omega) ⟨.bl _, H, I, rfl, q⟩
/-- < <= > >= -/
def cmpD : CmpOp → PyData → PyData → Bool
  | .Lt, a, b => PySem.W.dataLt a b
  | .Gt, a, b => PySem.W.dataLt b a
  | .LtE, a, b => !PySem.W.dataLt b a
  | .GtE, a, b => !PySem.W.dataLt a b
  | _, _, _ => false
def rCmpP (K : PySem.W.Frag) (op : CmpOp) : R2 := fun x y H Q => ∃ d e, Dp K H x d ∧ Dp K H y e ∧ PySem.W.alike d e = true ∧ d ≠ .none ∧ min d.depth e.depth ≤ 100 ∧ Q (.bl (cmpD op d e)) H
theorem op_cmpP {op : CmpOp} (ho : op = .Lt ∨ op = .Gt ∨ op = .LtE ∨ op = .GtE) (hu : X.A.units + 150 < cLine) : OpR X (compareOp op) (rCmpP X.K op) := by
  intro pins s σ H x y v u Q I rx ry h
  obtain ⟨d, e, hd, he, al, nn, hz, q⟩ := h
  obtain ⟨as, r1⟩ := Dp.reads I d x v hd rx
  obtain ⟨bs, r2⟩ := Dp.reads I e y u he ry
  rcases ho with rfl | rfl | rfl | rfl
  · exact PySem.W.lt_data r1 r2 al nn (by omega) ⟨.bl _, H, I, rfl, q⟩
  · exact PySem.W.gt_data r1 r2 al nn (by omega) ⟨.bl _, H, I, rfl, q⟩
  · exact PySem.W.le_data r1 r2 al nn (by omega) ⟨.bl _, H, I, rfl, q⟩
  · exact PySem.W.ge_data r1 r2 al nn (by omega) ⟨.bl _, H, I, rfl, q⟩
end
def okCmp (a b : D) : Bool := a.pl && b.pl && PySem.W.alike a.py b.py && decide (min a.py.depth b.py.depth ≤ 100) && (match a with | .non => false | _ => true)
def opCmp (op : CmpOp) (a b : D) : Option S := if okCmp a b = true then some (.sh (.bl (cmpD op a.py b.py))) else none
theorem b_eq {K : PySem.W.Frag} {W : Wd G} : B2 K W (rEqP K false) opEq := by
  intro P₀ H₀ P O σ st τ ts H g x y dx dy z Q R rx ry h q
  unfold opEq at h
  split at h
  · rename_i hc
    simp only [Option.some.injEq] at h; subst h
    simp only [okEq, Bool.and_eq_true, decide_eq_true_eq] at hc
    exact ⟨_, _, rx.dp R.sub hc.1.1, ry.dp R.sub hc.1.2, D.plain_of _ hc.1.1, D.plain_of _ hc.1.2, hc.2, q _ _ (R.ofSh (by simp [eqD]))⟩
  · cases h
theorem b_ne {K : PySem.W.Frag} {W : Wd G} : B2 K W (rEqP K true) opNe := by
  intro P₀ H₀ P O σ st τ ts H g x y dx dy z Q R rx ry h q
  unfold opNe at h
  split at h
  · rename_i hc
    simp only [Option.some.injEq] at h; subst h
    simp only [okEq, Bool.and_eq_true, decide_eq_true_eq] at hc
    exact ⟨_, _, rx.dp R.sub hc.1.1, ry.dp R.sub hc.1.2, D.plain_of _ hc.1.1, D.plain_of _ hc.1.2, hc.2, q _ _ (R.ofSh (by simp [eqD]))⟩
  · cases h
theorem b_cmp {K : PySem.W.Frag} {W : Wd G} {op : CmpOp} : B2 K W (rCmpP K op) (opCmp op) := by
  intro P₀ H₀ P O σ st τ ts H g x y dx dy z Q R rx ry h q
  unfold opCmp at h
  split at h
  · rename_i hc
    simp only [Option.some.injEq] at h; subst h
    simp only [okCmp, Bool.and_eq_true, decide_eq_true_eq] at hc
    refine ⟨_, _, rx.dp R.sub hc.1.1.1.1, ry.dp R.sub hc.1.1.1.2, hc.1.1.2, fun e => ?_, hc.1.2, q _ _ (R.ofSh (by simp))⟩
    have h1 := hc.2
    have h2 := hc.1.1.1.1
    cases dx <;> simp [D.py, D.pl] at e h1 h2
  · cases h
end DL
namespace DL
open PySem PySem.Spec L2
variable {G : Type}
/-! ### comparisons -/
section
variable {C : CF} {Fam : Wd G → Prop} {a b c : Expr} {fa fb fc : M G S} {pos : Pos}
theorem CF.eqP (C : CF) (j : C.ι) : OpR (C.X j) (compareOp .Eq) (rEqP C.K false) := by rw [← C.hK j]; exact op_eqP (by have := C.un j; omega)
theorem CF.neP (C : CF) (j : C.ι) : OpR (C.X j) (compareOp .NotEq) (rEqP C.K true) := by rw [← C.hK j]; exact op_neP (by have := C.un j; omega)
theorem CF.cmpP (C : CF) (j : C.ι) {op : CmpOp} (ho : op = .Lt ∨ op = .Gt ∨ op = .LtE ∨ op = .GtE) : OpR (C.X j) (compareOp op) (rCmpP C.K op) := by rw [← C.hK j]; exact op_cmpP ho (by have := C.un j; omega)
theorem d_eq (ha : DE C Fam a fa) (hb : DE C Fam b fb) : DE C Fam (.Compare a [.Eq] [b] pos) (mOp opEq fa fb) := d_cmp C.eqP (fun _ _ => b_eq) ha hb
theorem t_ne (ha : DE C Fam a fa) (hb : DE C Fam b fb) : DT C Fam (.Compare a [.NotEq] [b] pos) (mTest (mOp opNe fa fb)) := d_tcmp C.neP (fun _ _ => b_ne) ha hb
theorem t_ord {op : CmpOp} (ho : op = .Lt ∨ op = .Gt ∨ op = .LtE ∨ op = .GtE) (ha : DE C Fam a fa) (hb : DE C Fam b fb) : DT C Fam (.Compare a [op] [b] pos) (mTest (mOp (opCmp op) fa fb)) :=
  d_tcmp (fun j => C.cmpP j ho) (fun _ _ => b_cmp) ha hb (by rcases ho with rfl | rfl | rfl | rfl <;> exact nobehind _ (by decide) (by decide))
abbrev oGt : CmpOp.Gt = .Lt ∨ CmpOp.Gt = .Gt ∨ CmpOp.Gt = .LtE ∨ CmpOp.Gt = .GtE := .inr (.inl rfl)
abbrev oGe : CmpOp.GtE = .Lt ∨ CmpOp.GtE = .Gt ∨ CmpOp.GtE = .LtE ∨ CmpOp.GtE = .GtE := .inr (.inr (.inr rfl))
/-! a < b < c -/
def mChain (f f' : D → D → Option S) (fa fb fc : M G S) : M G S := fun st g =>
  bnd (fa st g) fun x st g => bnd (fb st g) fun y st g => (peek x st).bind fun dx => (peek y st).bind fun dy => (f dx dy).bind fun z =>
    match z with
    | .sh (.bl true) => bnd (fc st g) fun w st g => (peek y st).bind fun dy => (peek w st).bind fun dw => (f' dy dw).map fun z => (z, st, g)
    | .sh (.bl false) => some (.sh (.bl false), st, g)
    | _ => none
end
/-! ### dicts with ints and texts for keys -/
def keyD : D → Option Key
  | .int i => some (.inl i)
  | .str x => some (.inr x)
  | _ => none
theorem keyD_kD (k : Key) : keyD (kD k) = some k := by cases k <;> rfl
theorem kD_of {d : D} {k : Key} (h : keyD d = some k) : d = kD k := by
  cases d <;> simp [keyD] at h <;> subst h <;> rfl
def kEq (a b : D) : Bool := decide (keyD a = keyD b) && (keyD a).isSome
theorem kEq_kD (a b : Key) : kEq (kD a) (kD b) = decide (a = b) := by simp [kEq, keyD_kD]
def dlook (kvs : List (D × D)) (k : D) : Option D := (kvs.find? fun p => kEq p.1 k).map (·.2)
section
variable {K : PySem.W.Frag} {W : Wd G} {P : PM} {H : Hp} {v : V}
theorem rd1_key {d : D} {k : Key} (h : keyD d = some k) (r : Rd1 K W P H d v) : v = kV k := by
  rw [kD_of h] at r
  cases k <;> simpa [kD, kV] using r
theorem Repk.look : ∀ {kvs : List (D × D)} {ks : List (Key × V)} (k : Key), Repk K W P kvs (ks.map fun p => (kD p.1, p.2)) → (dlook kvs (kD k) = none ∧ valV ks k = none) ∨ ∃ d v, dlook kvs (kD k) = some d ∧ valV ks k = some v ∧ Rep K W P d v
  | [], ks, k, h => by
    simp only [Repk, List.map_eq_nil_iff] at h; subst h
    left; exact ⟨rfl, rfl⟩
  | (k0, d) :: kvs, ks, k, h => by
    simp only [Repk] at h
    obtain ⟨v, r, e, r1, r2⟩ := h
    cases ks with
    | nil => cases e
    | cons p ks =>
      simp only [List.map_cons, List.cons.injEq, Prod.mk.injEq] at e
      obtain ⟨⟨e1, e2⟩, e3⟩ := e
      subst e1 e2 e3
      by_cases hk : p.1 = k
      · right
        refine ⟨d, p.2, ?_, valV_pos hk, r1⟩
        simp [dlook, kEq_kD, hk]
      · rw [valV_neg hk]
        have e : dlook ((kD p.1, d) :: kvs) (kD k) = dlook kvs (kD k) := by simp [dlook, kEq_kD, hk]
        rw [e]
        exact Repk.look k r2
theorem Repk.any : ∀ {kvs : List (D × D)} {ks : List (Key × V)} (k : Key), Repk K W P kvs (ks.map fun p => (kD p.1, p.2)) → (kvs.any fun p => kEq p.1 (kD k)) = ks.any fun kv => decide (kv.1 = k)
  | [], ks, k, h => by simp only [Repk, List.map_eq_nil_iff] at h; subst h; rfl
  | (k0, d) :: kvs, ks, k, h => by
    simp only [Repk] at h
    obtain ⟨v, r, e, r1, r2⟩ := h
    cases ks with
    | nil => cases e
    | cons p ks =>
      simp only [List.map_cons, List.cons.injEq, Prod.mk.injEq] at e
      obtain ⟨⟨e1, e2⟩, e3⟩ := e
      subst e1 e2 e3
      simp only [List.any_cons, kEq_kD, Repk.any k r2]
theorem Repk.length : ∀ {kvs : List (D × D)} {ks : List (D × V)}, Repk K W P kvs ks → ks.length = kvs.length
  | [], ks, h => by simp only [Repk] at h; subst h; rfl
  | (k0, d) :: kvs, ks, h => by
    simp only [Repk] at h
    obtain ⟨v, r, rfl, r1, r2⟩ := h
    simp [Repk.length r2]
end
end DL
namespace DL
open PySem PySem.Spec L2
variable {G : Type}
/-! ### in, not in -/
section
variable {C : CF} {Fam : Wd G → Prop} {a b c : Expr} {fa fb fc : M G S} {pos p p2 : Pos}
/-! is None -/
/-! ### x[i] -/
def opIx : D → D → Option S
  | .tup ds, .int i => (atI ds i).map S.sh
  | .lst ds, .int i => (atI ds i).map S.sh
  | .str x, .int i => if x.length ≤ sizeLine then (atI x.cps.toList i).map fun c => S.sh (.str ⟨#[c]⟩) else none
  | .dct kvs, k => match keyD k with
    | some _ => (dlook kvs k).map S.sh
    | none => none
  | _, _ => none
theorem atI_rep {K : PySem.W.Frag} {W : Wd G} {P : PM} {ds : List D} {xs : List V} {i : Int} {d : D} (r : Reps K W P ds xs) (h : atI ds i = some d) : ∃ v, atI xs i = some v ∧ Rep K W P d v := by
  unfold atI at h ⊢
  rw [r.length]
  cases e : ixN ds.length i with
  | none => rw [e] at h; cases h
  | some j =>
    rw [e] at h
    exact r.get h
def rDG : R2 := fun x y H Q => ∃ a v, x = .ref a ∧ DGet H a y (some v) ∧ Q v H
theorem PE.or {X : Cx} {e : Expr} {t t' : TE} (h : PE X e t) (h' : PE X e t') : PE X e (fun σ H Q => t σ H Q ∨ t' σ H Q) := ⟨fun pins s σ H Q I q => q.elim (h.run pins s σ H Q I) (h'.run pins s σ H Q I)⟩
theorem d_sub' (ha : DE C Fam a fa) (hb : DE C Fam b fb) (hs : PlainIx b := by exact fun _ _ => rfl) : DE C Fam (.Subscript a b pos) (mOp opIx fa fb) := by
  obtain ⟨ta, pa, ea⟩ := ha.ex
  obtain ⟨tb, pb, eb⟩ := hb.ex
  refine ⟨fun σ H Q => tOp (rIx C.K) ta tb σ H Q ∨ tOp rDG ta tb σ H Q, fun j => PE.or (by rw [← C.hK j]; exact pe_ix ix_seq (pa j) (pb j) hs) (pe_dget (by have := C.un j; omega) (pa j) (pb j) hs), fun W hW P₀ H₀ σ st τ ts H g z st' g' Q R h q => ?_⟩
  obtain ⟨x, st1, g1, e1, h⟩ := bnd_eq h
  obtain ⟨y, st2, g2, e2, h⟩ := bnd_eq h
  obtain ⟨dx, e3, h⟩ := Option.bind_eq_some_iff.mp h
  obtain ⟨dy, e4, h⟩ := Option.bind_eq_some_iff.mp h
  obtain ⟨z', e5, h⟩ := Option.map_eq_some_iff.mp h
  simp only [Prod.mk.injEq] at h; obtain ⟨rfl, rfl, rfl⟩ := h
  have main : ∀ (r : R2), (∀ (P : PM) (O : Addr → Option Tag) (H2 : Hp) (v1 v2 : V), RelB C.K W P₀ H₀ P O σ st2 τ ts H2 g2 → Rd1 C.K W P H2 dx v1 → Rd1 C.K W P H2 dy v2 → r v1 v2 H2 Q) → tOp r ta tb σ H Q := fun r hr => by
    refine ea W hW _ _ _ _ _ _ _ _ _ _ _ _ R e1 fun v1 H1 R1 => ?_
    refine eb W hW _ _ _ _ _ _ _ _ _ _ _ _ R1 e2 fun v2 H2 R2 => ?_
    obtain ⟨P, O, R2⟩ := R2
    exact hr P O H2 v1 v2 R2.pop.pop (R2.pop.peekV e3) (R2.peekV e4)
  cases dx with
  | tup ds =>
    cases dy with
    | int i =>
      left
      refine main _ fun P O H2 v1 v2 R2 r1 r2 => ?_
      rw [rd1_int] at r2
      obtain ⟨pa, xs, rfl, sq, _, rs⟩ := rd1_tup.mp r1
      simp only [opIx] at e5
      obtain ⟨d, e6, rfl⟩ := Option.map_eq_some_iff.mp e5
      obtain ⟨v, e7, rv⟩ := atI_rep rs e6
      exact .inr (.inl ⟨pa, xs, i, v, rfl, r2, R2.sub.sqT sq.sq, e7, q _ _ (R2.ofSh rv)⟩)
    | _ => cases e5
  | lst ds =>
    cases dy with
    | int i =>
      left
      refine main _ fun P O H2 v1 v2 R2 r1 r2 => ?_
      rw [rd1_int] at r2
      obtain ⟨pa, xs, rfl, sq, _, rs⟩ := rd1_lst.mp r1
      simp only [opIx] at e5
      obtain ⟨d, e6, rfl⟩ := Option.map_eq_some_iff.mp e5
      obtain ⟨v, e7, rv⟩ := atI_rep rs e6
      exact .inl ⟨pa, xs, i, v, rfl, r2, SqL.of sq, e7, q _ _ (R2.ofSh rv)⟩
    | _ => cases e5
  | str x =>
    cases dy with
    | int i =>
      left
      refine main _ fun P O H2 v1 v2 R2 r1 r2 => ?_
      rw [rd1_int] at r2
      rw [rd1_str] at r1
      simp only [opIx] at e5
      split at e5
      · rename_i hz
        obtain ⟨c, e6, rfl⟩ := Option.map_eq_some_iff.mp e5
        exact .inr (.inr ⟨x, i, c, r1, r2, hz, e6, q _ _ (R2.ofSh (by simp))⟩)
      · cases e5
    | _ => cases e5
  | dct kvs =>
    right
    have h' : (match keyD dy with | some _ => (dlook kvs dy).map S.sh | none => none) = some z' := by cases dy <;> exact e5
    cases hk : keyD dy with
    | none => rw [hk] at h'; cases h'
    | some k =>
      rw [hk] at h'
      obtain ⟨d, e6, rfl⟩ := Option.map_eq_some_iff.mp h'
      refine main _ fun P O H2 v1 v2 R2 r1 r2 => ?_
      obtain ⟨pa, o, ks, rfl, eH, ⟨ks', hdk0, rfl⟩, rp⟩ := r1
      have ey := rd1_key hk r2
      subst ey
      have hdk := kD_of hk
      subst hdk
      rcases rp.look k with ⟨f1, f2⟩ | ⟨d', v, f1, f2, rv⟩
      · rw [f1] at e6; cases e6
      · rw [f1] at e6; cases e6
        exact ⟨pa, v, rfl, .inl ⟨ks', k, hdk0.rd eH, rfl, f2.symm⟩, q _ _ (R2.ofSh rv)⟩
  | _ => cases dy <;> cases e5
end
end DL
namespace DL
open PySem PySem.Spec L2
variable {G : Type}
section
variable {C : CF} {Fam : Wd G → Prop} {a b c : Expr} {fa fb fc : M G S} {pos p p2 : Pos} {x : Str} {id T : String} {r : List V → Hp → VK → Prop} {f : D → Option S}
theorem d_cb (hc : ∀ j, CallR (C.X j) (.builtin id) r) (hf : ∀ W, Fam W → B1 C.K W (fun v => r [v]) f) (hv : bootBuiltins x = some (.builtin id)) (hm : C.mg x = none) (ha : DE C Fam a fa) (hg : ∀ j, Gl (C.X j) x := by intro _; rfl) (hn : x ≠ "__name__" := by decide) (hdb : (x == ("__debug__" : Str)) = false := by decide)
    (he : ∀ j, starEach [a] (C.X j).env = (false, eval a (C.X j).env) :: starEach [] (C.X j).env := by intro _; rfl) : DE C Fam (.Call (.Name x p) [a] [] pos) (mUn f fa) := by
  obtain ⟨ta, pa, ea⟩ := ha.ex
  exact ⟨tUn (fun v => r [v]) ta, fun j => pe_callB (hc j) (hg j) (by rw [C.hmg j]; exact hm) hv (pa_cons (pa j) pa_nil (he j)) hn hdb (he j), fun W h => ev_un (ea W h) (hf W h)⟩
theorem d_ct (hc : ∀ j, CallR (C.X j) (.type T) r) (hf : ∀ W, Fam W → B1 C.K W (fun v => r [v]) f) (hv : bootBuiltins x = some (.type T)) (hm : C.mg x = none) (ha : DE C Fam a fa) (hg : ∀ j, Gl (C.X j) x := by intro _; rfl) (hn : x ≠ "__name__" := by decide) (hdb : (x == ("__debug__" : Str)) = false := by decide)
    (he : ∀ j, starEach [a] (C.X j).env = (false, eval a (C.X j).env) :: starEach [] (C.X j).env := by intro _; rfl) : DE C Fam (.Call (.Name x p) [a] [] pos) (mUn f fa) := by
  obtain ⟨ta, pa, ea⟩ := ha.ex
  exact ⟨tUn (fun v => r [v]) ta, fun j => pe_callTy (hc j) (hg j) (by rw [C.hmg j]; exact hm) hv (pa_cons (pa j) pa_nil (he j)) hn hdb (he j), fun W h => ev_un (ea W h) (hf W h)⟩
end
/-! len -/
def opLen : D → Option S
  | .tup ds => some (.sh (.int ds.length))
  | .lst ds => some (.sh (.int ds.length))
  | .dct ds => some (.sh (.int ds.length))
  | .str x => if x.length ≤ sizeLine then some (.sh (.int x.length)) else none
  | _ => none
def rLen (K : PySem.W.Frag) : List V → Hp → VK → Prop := fun xs H Q => (∃ x n, xs = [x] ∧ LenV K x H n ∧ Q (.int n) H) ∨ ∃ a kvs, xs = [V.ref a] ∧ Rd H a (.dK kvs) ∧ Q (.int kvs.length) H
theorem call_lenR {X : Cx} : CallR X (.builtin "len") (fun xs H Q => ∃ a kvs, xs = [V.ref a] ∧ Rd H a (.dK kvs) ∧ Q (.int kvs.length) H) := by
  intro pins s σ H xs us Q I r h
  obtain ⟨a, kvs, rfl, ha, q⟩ := h
  obtain ⟨u, rfl, ru⟩ := vals1 r
  cases ru
  exact L2.d_len I ha fun t s' I' => ⟨.int kvs.length, H, I', ⟨t, rfl⟩, q⟩
theorem b_len {K : PySem.W.Frag} {W : Wd G} : B1 K W (fun v => rLen K [v]) opLen := by
  intro P₀ H₀ P O σ st τ ts H g x dx z Q R rx h q
  cases dx with
  | tup ds =>
    cases h
    obtain ⟨a, xs, rfl, sq, _, rs⟩ := rd1_tup.mp rx
    exact .inl ⟨_, xs.length, rfl, .inr ⟨xs, R.sub.sqT sq.sq, rfl⟩, q _ _ (R.ofSh (by simp [rs.length]))⟩
  | lst ds =>
    cases h
    obtain ⟨a, xs, rfl, sq, _, rs⟩ := rd1_lst.mp rx
    exact .inl ⟨_, xs.length, rfl, .inl ⟨xs, SqL.of sq, rfl⟩, q _ _ (R.ofSh (by simp [rs.length]))⟩
  | dct ds =>
    cases h
    obtain ⟨a, o, ks, rfl, eH, ⟨ks', hdk0, rfl⟩, rp⟩ := rx
    exact .inr ⟨a, ks', rfl, hdk0.rd eH, q _ _ (R.ofSh (by have := rp.length; simp at this; simp [this]))⟩
  | str y =>
    simp only [opLen] at h
    split at h
    · rename_i hz
      cases h
      rw [rd1_str] at rx; subst rx
      exact .inl ⟨_, y.length, rfl, ⟨hz, rfl⟩, q _ _ (R.ofSh (by simp))⟩
    · cases h
  | _ => cases h
/-! tuple, list -/
def opTuple : D → Option S
  | .tup ds => some (.sh (.tup ds))
  | .lst ds => some (.sh (.tup ds))
  | _ => none
def opList : D → Option S
  | .tup ds => some (.ow (.lst ds))
  | .lst ds => some (.ow (.lst ds))
  | _ => none
/-! all, any, sum -/
def intsD : List D → Option (List Int)
  | [] => some []
  | .int b :: ds => (intsD ds).map (b :: ·)
  | _ => none
theorem intsD_rep {K : PySem.W.Frag} {W : Wd G} {P : PM} : ∀ {ds : List D} {bs : List Int} {xs : List V}, intsD ds = some bs → Reps K W P ds xs → xs = bs.map V.int
  | [], bs, xs, h, r => by
    simp only [intsD, Option.some.injEq] at h; subst h
    simp only [Reps] at r; rw [r]; rfl
  | d :: ds, bs, xs, h, r => by
    cases d with
    | int b =>
      simp only [intsD] at h
      obtain ⟨bs', e, rfl⟩ := Option.map_eq_some_iff.mp h
      simp only [Reps] at r
      obtain ⟨v, r', rfl, h1, h2⟩ := r
      rw [rep_int] at h1; subst h1
      rw [intsD_rep e h2]; rfl
    | _ => cases h
/-! int, abs -/
def opInt : D → Option S
  | .int i => some (.sh (.int i))
  | .bl k => some (.sh (.int (if k then 1 else 0)))
  | _ => none
def opAbs : D → Option S
  | .int i => some (.sh (.int (if i < 0 then -i else i)))
  | _ => none
section
variable {C : CF} {Fam : Wd G → Prop} {a b c : Expr} {fa fb fc : M G S} {pos p p2 : Pos}
theorem d_len (hm : C.mg "len" = none) (ha : DE C Fam a fa) (hg : ∀ j, Gl (C.X j) "len" := by intro _; rfl) (he : ∀ j, starEach [a] (C.X j).env = (false, eval a (C.X j).env) :: starEach [] (C.X j).env := by intro _; rfl) : DE C Fam (.Call (.Name "len" p) [a] [] pos) (mUn opLen fa) :=
  d_cb (r := rLen C.K) (fun j => by rw [← C.hK j]; exact call_len.or call_lenR) (fun _ _ => b_len) boot_len hm ha hg (he := he)
theorem d_int1 (hm : C.mg "int" = none) (ha : DE C Fam a fa) (hg : ∀ j, Gl (C.X j) "int" := by intro _; rfl) (he : ∀ j, starEach [a] (C.X j).env = (false, eval a (C.X j).env) :: starEach [] (C.X j).env := by intro _; rfl) : DE C Fam (.Call (.Name "int" p) [a] [] pos) (mUn opInt fa) :=
  d_ct (fun j => call_int1) (fun _ _ => by
    intro P₀ H₀ P O σ st τ ts H g x dx z Q R rx h q
    cases dx with
    | int i => cases h; rw [rd1_int] at rx; exact .inl ⟨i, by rw [rx], q _ _ (R.ofSh (by simp))⟩
    | bl i => cases h; rw [rd1_bl] at rx; exact .inr ⟨i, by rw [rx], q _ _ (R.ofSh (by simp))⟩
    | _ => cases h) (by decide +kernel) hm ha hg (he := he)
theorem d_abs (hm : C.mg "abs" = none) (ha : DE C Fam a fa) (hg : ∀ j, Gl (C.X j) "abs" := by intro _; rfl) (he : ∀ j, starEach [a] (C.X j).env = (false, eval a (C.X j).env) :: starEach [] (C.X j).env := by intro _; rfl) : DE C Fam (.Call (.Name "abs" p) [a] [] pos) (mUn opAbs fa) :=
  d_cb (fun j => call_abs) (fun _ _ => by
    intro P₀ H₀ P O σ st τ ts H g x dx z Q R rx h q
    cases dx with
    | int i => cases h; rw [rd1_int] at rx; exact ⟨i, by rw [rx], q _ _ (R.ofSh (by simp))⟩
    | _ => cases h) (by decide +kernel) hm ha hg (he := he)
end
/-! isinstance -/
inductive Kd where
  | tuple | list | str | int | bool | dict
def Kd.nm : Kd → String
  | .tuple => "tuple"
  | .list => "list"
  | .str => "str"
  | .int => "int"
  | .bool => "bool"
  | .dict => "dict"
def Kd.is : Kd → D → Bool
  | .tuple, .tup _ => true
  | .list, .lst _ => true
  | .str, .str _ => true
  | .int, .int _ => true
  | .int, .bl _ => true
  | .bool, .bl _ => true
  | .dict, .dct _ => true
  | .dict, .dcn _ => true
  | _, _ => false
end DL
namespace DL
open PySem PySem.Spec PyProof.Rows L2
variable {G : Type}
/-! ### ascending, each once -/
def ltD (a b : D) : Bool := PySem.W.dataLt a.py b.py
def insD (x : D) : List D → List D
  | [] => [x]
  | y :: ys => if ltD x y = true then x :: y :: ys else if ltD y x = true then y :: insD x ys else y :: ys
def ssD : List D → List D
  | [] => []
  | d :: ds => insD d (ssD ds)
theorem ltD_toks {a b : D} (h : ltD a b = false) (h2 : ltD b a = false) : PySem.W.keyToks a.py = PySem.W.keyToks b.py := lex_total _ _ h h2
def InjT (l : List D) : Prop := ∀ a ∈ l, ∀ b ∈ l, ltD a b = false → ltD b a = false → a = b
def Asc (l : List D) : Prop := l.Pairwise fun a b => ltD a b = true
/-! ### keys -/
end DL
namespace DL
open PySem PySem.Spec L2
variable {G : Type}
/-! ### slices -/
def mNoP : M G (Option Int) := fun st g => some (none, st, g)
def mPart (f : M G S) : M G (Option Int) := fun st g => bnd (f st g) fun x st g => match x with
  | .sh (.int i) => some (some i, st, g)
  | _ => none
def cutD (xs : List D) (lo hi : Option Int) : List D := (xs.drop (HT.sIx xs.length 0 lo)).take (HT.sIx xs.length xs.length hi - HT.sIx xs.length 0 lo)
def opSl : D → Option Int → Option Int → Option S
  | .tup ds, l, h => some (.sh (.tup (cutD ds l h)))
  | .lst ds, l, h => some (.ow (.lst (cutD ds l h)))
  | .str x, l, h => if x.length ≤ sizeLine then some (.sh (.str (cutS x l h))) else none
  | _, _, _ => none
def mSl (fa : M G S) (fl fh : M G (Option Int)) : M G S := fun st g =>
  bnd (fa st g) fun x st g => bnd (fl st g) fun l st g => bnd (fh st g) fun h st g => (peek x st).bind fun d => (opSl d l h).map fun z => (z, st, g)
/-! ### {} -/
def mDNew : M G S := fun st g => some (.ow (.dct []), st, g)
section
variable {C : CF} {Fam : Wd G → Prop} {a b : Expr} {fa fb fk fv : M G S} {pos p1 p2 p3 : Pos}
/-- a value that is no longer another slot's -/
def hold (s : S) (st : Sl) : Option (S × Sl) :=
  match s with
  | .sh d => some (.sh d, st)
  | .ow d => some (.ow d, st)
  | .at i => (take (.at i) st).map fun p => (.sh p.1, p.2)
  | .any => none
def mHold (f : M G S) : M G S := fun st g => bnd (f st g) fun x st g => (hold x st).map fun p => (p.1, p.2, g)
theorem hold_not {s s' : S} {st st' : Sl} (h : hold s st = some (s', st')) : (∀ j, s' ≠ .at j) ∧ s' ≠ .any := by
  cases s with
  | sh d => cases h; exact ⟨(fun j z => nomatch z), (fun z => nomatch z)⟩
  | ow d => cases h; exact ⟨(fun j z => nomatch z), (fun z => nomatch z)⟩
  | any => cases h
  | «at» i =>
    obtain ⟨p, _, e⟩ := Option.map_eq_some_iff.mp h
    cases e; exact ⟨(fun j z => nomatch z), (fun z => nomatch z)⟩
theorem EvE.hold {K : PySem.W.Frag} {W : Wd G} {t : TE} {f : M G S} (h : EvE K W t f) : EvE K W t (mHold f) := by
  intro P₀ H₀ σ st τ ts H g z st' g' Q R e q
  obtain ⟨x, st1, g1, e1, e⟩ := bnd_eq e
  obtain ⟨⟨y, st2⟩, e2, e⟩ := Option.map_eq_some_iff.mp e
  simp only [Prod.mk.injEq] at e; obtain ⟨rfl, rfl, rfl⟩ := e
  refine h _ _ _ _ _ _ _ _ _ _ _ _ R e1 fun v H1 R1 => q v H1 ?_
  cases x with
  | sh d => cases e2; exact R1
  | ow d => cases e2; exact R1
  | any => cases e2
  | «at» i =>
    obtain ⟨⟨d, st3⟩, e3, e4⟩ := Option.map_eq_some_iff.mp e2
    cases e4
    obtain ⟨P, O, R1⟩ := R1
    obtain ⟨P', O', R2⟩ := R1.takeV e3
    exact ⟨P', O', R2⟩
/-- x, y = a, b -/
def mPar (i j : Nat) (fa fb : M G S) : M G Fl := fun st g => bnd (mHold fa st g) fun x st g => bnd (mHold fb st g) fun y st g =>
  if i < st.length ∧ j < st.length then some (.nx, (st.set j (some y)).set i (some x), g) else none
theorem mHold_not {f : M G S} {st st' : Sl} {g g' : G} {s' : S} (h : mHold f st g = some (s', st', g')) : (∀ j, s' ≠ .at j) ∧ s' ≠ .any := by
  obtain ⟨x, st1, g1, e1, e⟩ := bnd_eq h
  obtain ⟨⟨y, st2⟩, e2, e⟩ := Option.map_eq_some_iff.mp e
  simp only [Prod.mk.injEq] at e; obtain ⟨rfl, rfl, rfl⟩ := e
  exact hold_not e2
theorem NoAt.cons {s : S} {ts : List S} (h : ∀ j, s ≠ .at j) (n : NoAt ts) : NoAt (s :: ts) := fun i z => by
  rcases List.mem_cons.mp z with e | z
  · exact h i e.symm
  · exact n i z
theorem par_core {K : PySem.W.Frag} {W : Wd G} {P₀ P : PM} {H₀ H : Hp} {O : Addr → Option Tag} {σ : L2.St} {st : Sl} {τ : List V} {ts : List S} {g : G} {v u : V} {x y : S} {i j : Nat} (R : RelB K W P₀ H₀ P O σ st (u :: v :: τ) (y :: x :: ts) H g) (hij : i ≠ j) (n : NoAt ts)
    (hx : (∀ j, x ≠ .at j) ∧ x ≠ .any) (hy : (∀ j, y ≠ .at j) ∧ y ≠ .any) (hi : i < st.length) (hj : j < st.length) : Rel K W P₀ H₀ ((σ.set i (some v)).set j (some u)) ((st.set j (some y)).set i (some x)) τ ts H g := by
  obtain ⟨O1, R1⟩ := R.store (i := j) hy.1 hy.2 (n.cons hx.1) (by rw [← R.len]; exact hj)
  obtain ⟨O2, R2⟩ := R1.store (i := i) hx.1 hx.2 n (by rw [List.length_set, ← R.len]; exact hi)
  rw [List.set_comm _ _ hij.symm] at R2
  exact ⟨P, O2, R2⟩
theorem ev_par {K : PySem.W.Frag} {W : Wd G} {ta tb : TE} {i j : Nat} (ea : EvE K W ta fa) (eb : EvE K W tb fb) (hij : i ≠ j) : EvS K W (tPar i j (tCons ta (tCons tb tNil))) (mPar i j fa fb) := by
  intro P₀ H₀ σ st τ ts H g fl st' g' E n R h q
  obtain ⟨x, st1, g1, e1, h⟩ := bnd_eq h
  obtain ⟨y, st2, g2, e2, h⟩ := bnd_eq h
  split at h
  · rename_i hl
    simp only [Option.some.injEq, Prod.mk.injEq] at h; obtain ⟨rfl, rfl, rfl⟩ := h
    refine ea.hold _ _ _ _ _ _ _ _ _ _ _ _ R e1 fun v H1 R1 => ?_
    refine eb.hold _ _ _ _ _ _ _ _ _ _ _ _ R1 e2 fun u H2 R2 => ?_
    obtain ⟨P, O, R2⟩ := R2
    exact ⟨v, u, rfl, q _ _ (par_core R2 hij n (mHold_not e1) (mHold_not e2) hl.1 hl.2)⟩
  · cases h
/-- both names are plain locals -/
theorem d_par (i j : Nat) {x y : Str} {px py pt pt2 : Pos} {kt k2 : Nat} (ha : DE C Fam a fa) (hb : DE C Fam b fb) (hi : C.N[i]? = some x := by rfl) (hj : C.N[j]? = some y := by rfl) (hij : i ≠ j := by decide)
    (hx : ∀ j, (C.X j).env.scope.names.lookup x = some .local := by intro _; rfl) (hy : ∀ j, (C.X j).env.scope.names.lookup y = some .local := by intro _; rfl)
    (hw : ∀ j, swappedStores [.Tuple [.Name x px, .Name y py] kt pt] (.Tuple [a, b] k2 pt2) (C.X j).env = pure (some [x, y]) := by intro _; rfl) (hs : ∀ j, swapsWithSole [.Tuple [.Name x px, .Name y py] kt pt] (.Tuple [a, b] k2 pt2) pos.line (C.X j).env = pure false := by intro _; rfl)
    (he : ∀ j, starEach [a, b] (C.X j).env = (false, eval a (C.X j).env) :: starEach [b] (C.X j).env := by intro _; rfl) (he2 : ∀ j, starEach [b] (C.X j).env = (false, eval b (C.X j).env) :: starEach [] (C.X j).env := by intro _; rfl) :
    DS C Fam (.Assign [.Tuple [.Name x px, .Name y py] kt pt] (.Tuple [a, b] k2 pt2) pos) (mPar i j fa fb) := by
  obtain ⟨ta, pa, ea⟩ := ha.ex
  obtain ⟨tb, pb, eb⟩ := hb.ex
  exact ⟨_, fun l => ps_par (C.calm l) (C.nd' l) (by rw [C.hN l]; exact hi) (by rw [C.hN l]; exact hj) hij (hx l) (hy l) (pa_cons (pa l) (pa_cons (pb l) pa_nil (he2 l)) (he l)) (hw l) (hs l), fun W hW => ev_par (ea W hW) (eb W hW) hij⟩
/-! ### d[k] = v, the dict being of slot i -/
end
end DL
namespace DL
open PySem PySem.Spec PyProof.Rows L2
variable {G : Type}
/-! ### x.append(e), x.extend(e), x being the list of slot i -/
def opApp : D → D → Option D
  | .lst ds, d => if ds.length < sizeLine then some (.lst (ds ++ [d])) else none
  | _, _ => none
/-- what the method's rule asks, the own thing being at a -/
def BM (K : PySem.W.Frag) (W : Wd G) (T : String) (r : V → List V → Hp → VK → Prop) (op : D → D → Option D) : Prop :=
  ∀ (P : PM) (H : Hp) (a : Addr) (o : HO) (e d e' : D) (v : V) (Q : VK), Sub P H → P a = none → H a = some o → Own K W P a o e → Rep K W P d v → op e d = some e' → (∀ o', Own K W P a o' e' → Q .non (upd H a o')) → r (.ref a) [v] H Q
section
variable {C : CF} {Fam : Wd G → Prop} {a b : Expr} {fa fb : M G S} {pos p1 p2 : Pos}
/-- a slot that holds an own list -/
def mAtL (i : Nat) : M G S := fun st g => match st[i]? with
  | some (some (.ow (.lst _))) => some (.at i, st, g)
  | _ => none
theorem mAtL_at {i : Nat} {st : Sl} {g : G} {r} (h : mAtL i st g = some r) : mVar i st g = some r ∧ r.1 = .at i ∧ r.2 = (st, g) ∧ ∃ ds, st[i]? = some (some (.ow (.lst ds))) := by
  unfold mAtL at h
  unfold mVar
  split at h
  · rename_i d e
    cases h
    exact ⟨by simp [e], rfl, rfl, d, e⟩
  · cases h
def mMethL (i : Nat) (op : D → D → Option D) (f : M G S) : M G S := fun st g => bnd (mAtL i st g) fun _ st g => bnd (mTake f st g) fun d st g =>
  match st[i]? with
  | some (some (.ow e)) => (op e d).map fun e' => (.sh .non, st.set i (some (.ow e')), g)
  | _ => none
theorem ev_methL {K : PySem.W.Frag} {W : Wd G} {r : V → List V → Hp → VK → Prop} {op : D → D → Option D} {ta : TE} {f : M G S} {i : Nat} (ea : EvE K W ta f) (hb : BM K W "list" r op) : EvE K W (tBM K "list" r (tVar i) (tCons ta tNil)) (mMethL i op f) := by
  intro P₀ H₀ σ st τ ts H g z st' g' Q R h q
  obtain ⟨y, st1, g1, e1, h1⟩ := bnd_eq h
  clear h
  obtain ⟨d, st2, g2, e2, h⟩ := bnd_eq h1
  clear h1
  obtain ⟨m1, m2, m3, ds0, m4⟩ := mAtL_at e1
  simp only at m2
  subst m2
  refine ev_var i _ _ _ _ _ _ _ _ _ _ _ _ R m1 fun u H1 R1 => ?_
  obtain ⟨x, st0, e3, e4⟩ := mTake_eq e2
  simp only [Prod.mk.injEq] at m3
  obtain ⟨rfl, rfl⟩ := m3
  have ty : tyV K "list" u H1 := by
    obtain ⟨P, O, R1⟩ := R1
    obtain ⟨w', ew, _, a', o, rfl, eO, eH, xs, rfl, _⟩ := R1.slot m4
    have : σ[i]? = some (some u) := R1.temps.1
    rw [ew] at this; cases this
    exact .inl ⟨rfl, xs, SqL.of eH⟩
  refine ⟨ty, ?_⟩
  refine ea _ _ _ _ _ _ _ _ _ _ _ _ R1 e3 fun v H2 R2 => ?_
  obtain ⟨P, O, R2⟩ := R2
  obtain ⟨P, O, R2⟩ := R2.takeV e4
  cases hi : st2[i]? with
  | none => rw [hi] at h; cases h
  | some s =>
    rw [hi] at h
    cases s with
    | none => cases h
    | some s =>
      cases s with
      | ow e =>
        obtain ⟨e', e5, h⟩ := Option.map_eq_some_iff.mp h
        simp only [Prod.mk.injEq] at h; obtain ⟨rfl, rfl, rfl⟩ := h
        obtain ⟨w', ew, _, a', o, rfl, eO, eH, ow⟩ := R2.slot hi
        have hu : σ[i]? = some (some u) := R2.temps.2.1
        rw [ew] at hu; cases hu
        refine hb P H2 a' o e d e' v Q R2.sub (R2.own a' _ eO).1 eH ow R2.temps.1 e5 fun o' ow' => ?_
        have R4 := R2.pop.pop.write (o := o) hi ew (o' := o') ow'
        exact q _ _ ⟨P, O, R4.push (by simp)⟩
      | _ => cases h
theorem bm_app {K : PySem.W.Frag} {W : Wd G} : BM K W "list" rAppend opApp := by
  intro P H a o e d e' v Q hs hp eH ow rv h q
  cases e with
  | lst ds =>
    simp only [opApp] at h
    split at h
    · rename_i hz
      cases h
      obtain ⟨xs, rfl, hz2, rs⟩ := ow
      exact ⟨a, xs, v, rfl, rfl, eH, by rw [rs.length]; exact hz, q _ ⟨_, rfl, by simp; omega, rs.append (Reps.one rv)⟩⟩
    · cases h
  | _ => cases h
theorem d_app (i : Nat) {x : Str} (ha : DE C Fam a fa) (hN : C.N[i]? = some x := by rfl) (hvis : ∀ j, Vis (C.X j).env.scope x := by intro _; first | exact Or.inl rfl | exact Or.inr (Or.inl rfl) | exact Or.inr (Or.inr rfl)) (hd : (x == ("__debug__" : Str)) = false := by decide)
    (hcd : (x == ("__classdict__" : Str)) = false := by decide) (hbase : ∀ j, attributeBase (.Name x p1) "append" (C.X j).env (eval (.Name x p1) (C.X j).env) = eval (.Name x p1) (C.X j).env := by intro _; rfl)
    (hfew : ∀ j, ((backTo pos (starEach [a] (C.X j).env)).all (fun x => !x.1) && (backToKw pos (keywordEach [] (C.X j).env)).all (fun x => x.1.isSome) && decide ([a].length + ([] : List Keyword).length + (if ([] : List Keyword).isEmpty then 0 else 1) < 30)) = true := by intro _; rfl)
    (hline : (p2.endLine == pos.line) = true := by rfl) (he : ∀ j, starEach [a] (C.X j).env = (false, eval a (C.X j).env) :: starEach [] (C.X j).env := by intro _; rfl) : DE C Fam (.Call (.Attribute (.Name x p1) "append" p2) [a] [] pos) (mMethL i opApp fa) := by
  obtain ⟨ta, pa, ea⟩ := ha.ex
  exact ⟨_, fun j => by rw [← C.hK j]; exact pe_bm PySem.F.plainAttrs_list PySem.F.slot_list_append PySem.F.type_list_append mt_append (pe_var (i := i) (by rw [C.hN j]; exact hN) (hvis j) hd hcd) (pa_cons (pa j) pa_nil (he j)) (hbase j) (hfew j) hline (he j), fun W hW => ev_methL (ea W hW) bm_app⟩
end
/-! ### sorted(d) -/
/-! ### dict(pairs) -/
end DL
namespace DL
open PySem PySem.Spec PyProof.Rows L2
variable {G : Type}
/-! ### t[::s] -/
/-! ### names of the module -/
def GC (K : PySem.W.Frag) (mg : Str → Option Value) (x : Str) (d : D) : Prop := ∃ u v, mg x = some u ∧ RelV v u ∧ ∀ (G : Type) (W : Wd G) (P : PM), Rep K W P d v
theorem GC.int {K : PySem.W.Frag} {mg : Str → Option Value} {x : Str} {i : Int} {t : Tok} (h : mg x = some (.int i t)) : GC K mg x (.int i) := ⟨_, .int i, h, ⟨t, rfl⟩, fun G W P => by simp⟩
theorem GC.str {K : PySem.W.Frag} {mg : Str → Option Value} {x : Str} {i : Str} {t : Tok} (h : mg x = some (.str i t)) : GC K mg x (.str i) := ⟨_, .str i, h, ⟨t, rfl⟩, fun G W P => by simp⟩
/-! ### the shared things change -/
theorem RelB.world {K : PySem.W.Frag} {W : Wd G} {P₀ P : PM} {H₀ H H' : Hp} {O : Addr → Option Tag} {σ : L2.St} {st : Sl} {τ : List V} {ts : List S} {g g' : G} (R : RelB K W P₀ H₀ P O σ st τ ts H g) (hH : ∀ a, ¬ W.fp P.ob a → H' a = H a) (hw : W.holds g' P H') : RelB K W P₀ H₀ P O σ st τ ts H' g' := by
  have oe : ∀ a t, O a = some t → H' a = H a := fun a t h => hH a (R.own a t h).2.2.1
  refine ⟨fun a o h => ?_, fun a o h n => ?_, R.p0, R.new, R.nfp, R.fpn, fun a t h => ?_, hw, R.len, fun i s h => ?_, ?_⟩
  · rw [hH a (R.nfp a (by rw [h]; simp))]; exact R.sub a o h
  · rw [hH a n]; exact R.base a o h n
  · obtain ⟨h1, h2, h3, h4⟩ := R.own a t h
    exact ⟨h1, h2, h3, by rw [oe a t h]; exact h4⟩
  · obtain ⟨v, e1, e2, q⟩ := R.slots i s h
    exact ⟨v, e1, e2, q.mono (SubP.refl P) (fun _ z => z) fun a o z y => by rw [oe a _ z]; exact y⟩
  · exact R.temps.mono (SubP.refl P) (fun _ _ _ z => z) fun a o k _ z y => by rw [oe a _ z]; exact y
/-- read an object of the world -/
def peekW (rd : G → Nat → Option D) (s : S) (st : Sl) (g : G) : Option D :=
  match s with
  | .sh (.obj n) => rd g n
  | s => peek s st
def RdW (K : PySem.W.Frag) (Fam : Wd G → Prop) (rd : G → Nat → Option D) : Prop := ∀ W, Fam W → ∀ (P : PM) (H : Hp) (g : G) n d v, W.holds g P H → rd g n = some d → Rep K W P (.obj n) v → Rd1 K W P H d v
theorem RelB.peekW {K : PySem.W.Frag} {Fam : Wd G → Prop} {rd : G → Nat → Option D} (hr : RdW K Fam rd) {W : Wd G} (hW : Fam W) {P₀ P : PM} {H₀ H : Hp} {O : Addr → Option Tag} {σ : L2.St} {st : Sl} {τ : List V} {ts : List S} {g : G} {v : V} {s : S} {d : D} (R : RelB K W P₀ H₀ P O σ st (v :: τ) (s :: ts) H g) (h : DL.peekW rd s st g = some d) : Rd1 K W P H d v := by
  by_cases hs : ∃ n, s = .sh (.obj n)
  · obtain ⟨n, rfl⟩ := hs
    have hv : Rep K W P (.obj n) v := R.temps.1
    exact hr W hW P H g n d v R.wld h hv
  · have : DL.peekW rd s st g = peek s st := by
      unfold DL.peekW
      split
      · rename_i n; exact absurd ⟨n, rfl⟩ hs
      · rfl
    rw [this] at h
    exact R.peekV h
def mOpW (rd : G → Nat → Option D) (op : D → D → Option S) (fa fb : M G S) : M G S := fun st g =>
  bnd (fa st g) fun x st g => bnd (fb st g) fun y st g => (peekW rd x st g).bind fun dx => (peekW rd y st g).bind fun dy => (op dx dy).map fun z => (z, st, g)
def mUnW (rd : G → Nat → Option D) (op : D → Option S) (fa : M G S) : M G S := fun st g =>
  bnd (fa st g) fun x st g => (peekW rd x st g).bind fun dx => (op dx).map fun z => (z, st, g)
theorem ev_opW {K : PySem.W.Frag} {Fam : Wd G → Prop} {rd : G → Nat → Option D} (hr : RdW K Fam rd) {W : Wd G} (hW : Fam W) {ta tb : TE} {fa fb : M G S} {r : R2} {op : D → D → Option S} (ha : EvE K W ta fa) (hb : EvE K W tb fb) (ho : B2 K W r op) : EvE K W (tOp r ta tb) (mOpW rd op fa fb) := by
  intro P₀ H₀ σ st τ ts H g z st' g' Q R h q
  obtain ⟨x, st1, g1, e1, h⟩ := bnd_eq h
  obtain ⟨y, st2, g2, e2, h⟩ := bnd_eq h
  obtain ⟨dx, e3, h⟩ := Option.bind_eq_some_iff.mp h
  obtain ⟨dy, e4, h⟩ := Option.bind_eq_some_iff.mp h
  obtain ⟨z', e5, h⟩ := Option.map_eq_some_iff.mp h
  simp only [Prod.mk.injEq] at h; obtain ⟨rfl, rfl, rfl⟩ := h
  refine ha _ _ _ _ _ _ _ _ _ _ _ _ R e1 fun v1 H1 R1 => ?_
  refine hb _ _ _ _ _ _ _ _ _ _ _ _ R1 e2 fun v2 H2 R2 => ?_
  obtain ⟨P, O, R2⟩ := R2
  exact ho _ _ _ _ _ _ _ _ _ _ _ _ _ _ _ _ R2.pop.pop (RelB.peekW hr hW R2.pop e3) (RelB.peekW hr hW R2 e4) e5 q
theorem ev_unW {K : PySem.W.Frag} {Fam : Wd G → Prop} {rd : G → Nat → Option D} (hr : RdW K Fam rd) {W : Wd G} (hW : Fam W) {ta : TE} {fa : M G S} {r : V → Hp → VK → Prop} {op : D → Option S} (ha : EvE K W ta fa) (ho : B1 K W r op) : EvE K W (tUn r ta) (mUnW rd op fa) := by
  intro P₀ H₀ σ st τ ts H g z st' g' Q R h q
  obtain ⟨x, st1, g1, e1, h⟩ := bnd_eq h
  obtain ⟨dx, e3, h⟩ := Option.bind_eq_some_iff.mp h
  obtain ⟨z', e5, h⟩ := Option.map_eq_some_iff.mp h
  simp only [Prod.mk.injEq] at h; obtain ⟨rfl, rfl, rfl⟩ := h
  refine ha _ _ _ _ _ _ _ _ _ _ _ _ R e1 fun v1 H1 R1 => ?_
  obtain ⟨P, O, R1⟩ := R1
  exact ho _ _ _ _ _ _ _ _ _ _ _ _ _ _ R1.pop (RelB.peekW hr hW R1 e3) e5 q
def opIxL : D → D → Option S
  | .lst ds, .int i => (atI ds i).map S.sh
  | _, _ => none
theorem b_ixL {K : PySem.W.Frag} {W : Wd G} : B2 K W (rIx K) opIxL := by
  intro P₀ H₀ P O σ st τ ts H g x y dx dy z Q R rx ry h q
  cases dx with
  | lst ds =>
    cases dy with
    | int i =>
      rw [rd1_int] at ry
      obtain ⟨a, xs, rfl, sq, hz, rs⟩ := rd1_lst.mp rx
      obtain ⟨d, e6, rfl⟩ := Option.map_eq_some_iff.mp h
      obtain ⟨v, e7, rv⟩ := atI_rep rs e6
      exact .inl ⟨a, xs, i, v, rfl, ry, SqL.of sq, e7, q _ _ (R.ofSh rv)⟩
    | _ => cases h
  | _ => cases dy <;> cases h
section
variable {C : CF} {Fam : Wd G → Prop} {rd : G → Nat → Option D} {a b e : Expr} {fa fb f : M G S} {pos p p1 p2 : Pos}
theorem d_subW (hr : RdW C.K Fam rd) (ha : DE C Fam a fa) (hb : DE C Fam b fb) (hs : PlainIx b := by exact fun _ _ => rfl) : DE C Fam (.Subscript a b pos) (mOpW rd opIxL fa fb) := by
  obtain ⟨ta, pa, ea⟩ := ha.ex
  obtain ⟨tb, pb, eb⟩ := hb.ex
  exact ⟨_, fun j => by rw [← C.hK j]; exact pe_ix ix_seq (pa j) (pb j) hs, fun W h => ev_opW hr h (ea W h) (eb W h) b_ixL⟩
theorem t_neW (hr : RdW C.K Fam rd) (ha : DE C Fam a fa) (hb : DE C Fam b fb) : DT C Fam (.Compare a [.NotEq] [b] pos) (mTest (mOpW rd opNe fa fb)) := by
  obtain ⟨ta, pa, ea⟩ := ha.ex
  obtain ⟨tb, pb, eb⟩ := hb.ex
  exact ⟨_, fun j => pt_cmpR (by rw [← C.hK j]; exact op_neP (by have := C.un j; omega)) (pa j) (pb j) (nobehind _ (by decide) (by decide)), fun W h => ev_test (ev_opW hr h (ea W h) (eb W h) b_ne)⟩
theorem d_lenW (hr : RdW C.K Fam rd) (hm : C.mg "len" = none) (ha : DE C Fam a fa) (hg : ∀ j, Gl (C.X j) "len" := by intro _; rfl) (he : ∀ j, starEach [a] (C.X j).env = (false, eval a (C.X j).env) :: starEach [] (C.X j).env := by intro _; rfl) : DE C Fam (.Call (.Name "len" p) [a] [] pos) (mUnW rd opLen fa) := by
  obtain ⟨ta, pa, ea⟩ := ha.ex
  exact ⟨tUn (fun v => rLen C.K [v]) ta, fun j => pe_callB (r := rLen C.K) (by rw [← C.hK j]; exact call_len.or call_lenR) (hg j) (by rw [C.hmg j]; exact hm) boot_len (pa_cons (pa j) pa_nil (he j)) (he := he j), fun W h => ev_unW hr h (ea W h) b_len⟩
end
end DL
namespace DL
open PySem PySem.Spec PyProof.Rows L2
variable {G : Type}
/-! ### repr -/
def rRepr (K : PySem.W.Frag) : List V → Hp → VK → Prop := fun vs H Q => ∃ v d, vs = [v] ∧ Dp K H v d ∧ d.showable = true ∧ d.hasDict = false ∧ d.depth ≤ 100 ∧ d.shown.length ≤ sizeLine ∧ Q (.str d.shown) H
theorem cr_repr {X : Cx} (hg : X.A.guards = some []) (hu : X.A.units + 150 < cLine) : CallR X (.builtin "repr") (rRepr X.K) := by
  intro pins s σ H vs us Q I rv h
  obtain ⟨v, d, rfl, hd, hs, hn, hz, hl, q⟩ := h
  obtain ⟨u, rfl, ru⟩ := vals1 rv
  obtain ⟨as, r⟩ := Dp.reads I d v u hd ru
  cases r with
  | none => exact PySem.P.repr_of_none ⟨.str _, H, I.tok _, ⟨_, rfl⟩, q⟩
  | bool b => exact PySem.P.repr_of_bool ⟨.str _, H, I.tok _, ⟨_, by cases b <;> rfl⟩, q⟩
  | int n t => exact PySem.P.repr_of_int (by simpa [PyData.showable] using hs) ⟨.str _, H, I.tok _, ⟨_, rfl⟩, q⟩
  | str x t => exact PySem.P.repr_of_str ⟨.str _, H, I.tok _, ⟨_, rfl⟩, q⟩ hl
  | list h1 h2 h3 h4 => exact repr_of_reads' (.list h1 h2 h3 h4) hs (PySem.PyData.noDict_hsm hn) hg (by omega) (fun _ _ e => e) (fun h' u tk k => ⟨.str _, H, I.kept k, ⟨_, rfl⟩, q⟩) hl
  | tuple h1 h2 h3 h4 => exact repr_of_reads' (.tuple h1 h2 h3 h4) hs (PySem.PyData.noDict_hsm hn) hg (by omega) (fun _ _ e => e) (fun h' u tk k => ⟨.str _, H, I.kept k, ⟨_, rfl⟩, q⟩) hl
  | dict h1 h2 h3 h4 h5 => simp [PyData.hasDict] at hn
mutual
theorem D.noDict : ∀ d : D, d.py.hasDict = false
  | .non => rfl
  | .bl _ => rfl
  | .int _ => rfl
  | .str _ => rfl
  | .tup xs => by simp only [D.py, PyData.hasDict]; exact D.noDicts xs
  | .lst xs => by simp only [D.py, PyData.hasDict]; exact D.noDicts xs
  | .dct _ => rfl
  | .dcn _ => rfl
  | .obj _ => rfl
theorem D.noDicts : ∀ ds : List D, PyData.hasDictAll (D.pys ds) = false
  | [] => rfl
  | d :: ds => by simp only [D.pys, PyData.hasDictAll, D.noDict d, D.noDicts ds, Bool.or_self]
end
def okRepr (d : D) : Bool := d.pl && d.py.showable && decide (d.py.depth ≤ 100) && decide (d.py.shown.length ≤ sizeLine)
def opRepr (d : D) : Option S := if okRepr d = true then some (.sh (.str d.py.shown)) else none
theorem b_repr {K : PySem.W.Frag} {W : Wd G} : B1 K W (fun v => rRepr K [v]) opRepr := by
  intro P₀ H₀ P O σ st τ ts H g x dx z Q R rx h q
  unfold opRepr at h
  split at h
  · rename_i hc
    cases h
    simp only [okRepr, Bool.and_eq_true, decide_eq_true_eq] at hc
    exact ⟨x, dx.py, rfl, rx.dp R.sub hc.1.1.1, hc.1.1.2, D.noDict dx, hc.1.2, hc.2, q _ _ (R.ofSh (by simp))⟩
  · cases h
section
variable {C : CF} {Fam : Wd G → Prop} {a b c : Expr} {fa fb fc : M G S} {pos p p2 : Pos}
theorem d_repr (hm : C.mg "repr" = none) (ha : DE C Fam a fa) (hg : ∀ j, Gl (C.X j) "repr" := by intro _; rfl) (he : ∀ j, starEach [a] (C.X j).env = (false, eval a (C.X j).env) :: starEach [] (C.X j).env := by intro _; rfl) : DE C Fam (.Call (.Name "repr" p) [a] [] pos) (mUn opRepr fa) :=
  d_cb (r := rRepr C.K) (fun j => by rw [← C.hK j]; exact cr_repr (C.hgd j) (by have := C.un j; omega)) (fun _ _ => b_repr) (by decide +kernel) hm ha hg (he := he)
end
end DL
namespace DL
open PySem PySem.Spec PyProof.Rows L2
/-- the deck: its great cells, all cells, how many draws were mixed -/
inductive Ob where
  | ins (fs : List (Str × D))
  | lst (ds : List D)
  | exc (C : Str) (k : Option Nat)
  | xd (f : Str) (x : D)
structure Dk where
  big : List Int
  cells : List Int
  turn : Int
  loan : Option (List D) := none
  objs : List Ob := []
/-- what a world is made over: the frozen part, the program's world, the class of labs -/
structure WP where
  K : PySem.W.Frag
  pw : World
  lc : Addr
/-- the tables of lambdas stay -/
theorem tabs_keep {T : List (Addr × Str)} {H H' : Hp} (h : LamX.Tabs T H) (e : ∀ p ∈ T, H' p.1 = H p.1) (k : ∀ a o, H a = some o → Cod o → H' a = some o) : LamX.Tabs T H' := fun p hp => by
  obtain ⟨ps, h1, h2, h3⟩ := h p hp
  refine ⟨ps, (e p hp).trans h1, h2, fun pos cv hc => ?_⟩
  obtain ⟨c, e1, e2⟩ := h3 pos cv hc
  exact ⟨c, e1, k _ _ e2 ⟨_, _, rfl⟩⟩
theorem tabs_there {T : List (Addr × Str)} {H : Hp} (h : LamX.Tabs T H) {p : Addr × Str} (hp : p ∈ T) : ∃ ps, H p.1 = some (.tbl ps) := let ⟨ps, h1, _⟩ := h p hp; ⟨ps, h1⟩
theorem tabs_upd {T : List (Addr × Str)} {H : Hp} {a : Addr} {x u : HO} (h : LamX.Tabs T H) (ha : H a = some u) (hu : ¬ Cod u) (hT : ∀ p ∈ T, p.1 ≠ a) : LamX.Tabs T (upd H a x) := tabs_keep h (fun p hp => upd_ne (hT p hp)) (keep_ne ha hu)
def atomV : D → Option V
  | .int i => some (.int i)
  | .non => some .non
  | .str x => some (.str x)
  | .bl b => some (.bl b)
  | _ => none
def atomsV : List D → Option (List V)
  | [] => some []
  | d :: ds => (atomV d).bind fun v => (atomsV ds).map fun vs => v :: vs
/-- the list that is lent lies at la -/
def LoanOk (la : Option Addr) (loan : Option (List D)) (H : Hp) : Prop :=
  match la, loan with
  | none, none => True
  | some a, some l => l.length ≤ sizeLine ∧ ∃ vs, atomsV l = some vs ∧ H a = some (.lst vs)
  | _, _ => False
theorem LoanOk.keep {la : Option Addr} {loan : Option (List D)} {H H' : Hp} (h : LoanOk la loan H) (e : ∀ a, la = some a → H' a = H a) : LoanOk la loan H' := by
  cases la with
  | none => cases loan with
    | none => trivial
    | some l => exact h.elim
  | some a => cases loan with
    | none => exact h.elim
    | some l =>
      obtain ⟨z, vs, e1, e2⟩ := h
      exact ⟨z, vs, e1, (e a rfl).trans e2⟩
/-- a world without anything in it -/
def plainW (G : Type) (pw : World) (ref : Nat → V) : Wd G where
  pw := pw
  fp := fun _ _ => False
  holds := fun _ _ _ => True
  ref := ref
  loc := fun _ _ _ _ _ _ _ _ _ _ => trivial
  mono := fun _ _ _ _ h => h
  there := fun _ _ _ _ _ h => h.elim
mutual
theorem rep_w {G : Type} {K : PySem.W.Frag} {W W' : Wd G} {P : PM} (h1 : W.ref = W'.ref) (h2 : W.pw = W'.pw) : ∀ (d : D) (v : V), Rep K W P d v → Rep K W' P d v
  | .non, _, h => by simpa only [Rep] using h
  | .bl _, _, h => by simpa only [Rep] using h
  | .int _, _, h => by simpa only [Rep] using h
  | .str _, _, h => by simpa only [Rep] using h
  | .obj n, _, h => by simp only [Rep] at h ⊢; rw [← h1]; exact h
  | .tup ds, v, h => by
    simp only [Rep] at h ⊢
    obtain ⟨a, xs, e, q, z, r⟩ := h
    exact ⟨a, xs, e, q, z, reps_w h1 h2 ds xs r⟩
  | .lst ds, v, h => by
    simp only [Rep] at h ⊢
    obtain ⟨a, xs, e, q, z, r⟩ := h
    exact ⟨a, xs, e, q, z, reps_w h1 h2 ds xs r⟩
  | .dct kvs, v, h => by
    simp only [Rep] at h ⊢
    obtain ⟨a, o, ks, e, q, z, r⟩ := h
    exact ⟨a, o, ks, e, q, z, repk_w h1 h2 kvs ks r⟩
  | .dcn kvs, v, h => by
    simp only [Rep] at h ⊢
    obtain ⟨a, o, xs, e, q, z, r⟩ := h
    exact ⟨a, o, xs, e, q, by rw [← h2]; exact z, repn_w h1 h2 kvs xs r⟩
theorem reps_w {G : Type} {K : PySem.W.Frag} {W W' : Wd G} {P : PM} (h1 : W.ref = W'.ref) (h2 : W.pw = W'.pw) : ∀ (ds : List D) (vs : List V), Reps K W P ds vs → Reps K W' P ds vs
  | [], _, h => by simpa only [Reps] using h
  | d :: ds, vs, h => by
    simp only [Reps] at h ⊢
    obtain ⟨v, r, e, q1, q2⟩ := h
    exact ⟨v, r, e, rep_w h1 h2 d v q1, reps_w h1 h2 ds r q2⟩
theorem repk_w {G : Type} {K : PySem.W.Frag} {W W' : Wd G} {P : PM} (h1 : W.ref = W'.ref) (h2 : W.pw = W'.pw) : ∀ (ds : List (D × D)) (vs : List (D × V)), Repk K W P ds vs → Repk K W' P ds vs
  | [], _, h => by simpa only [Repk] using h
  | (k, d) :: ds, vs, h => by
    simp only [Repk] at h ⊢
    obtain ⟨v, r, e, q1, q2⟩ := h
    exact ⟨v, r, e, rep_w h1 h2 d v q1, repk_w h1 h2 ds r q2⟩
theorem repn_w {G : Type} {K : PySem.W.Frag} {W W' : Wd G} {P : PM} (h1 : W.ref = W'.ref) (h2 : W.pw = W'.pw) : ∀ (ds : List (D × D)) (xs : List (NestedKey × Addr × Value)), Repn K W P ds xs → Repn K W' P ds xs
  | [], _, h => by simpa only [Repn] using h
  | (k, d) :: ds, xs, h => by
    simp only [Repn] at h ⊢
    obtain ⟨nk, b, u, v, r, e, q1, q2, q3, q4, q5, q6⟩ := h
    exact ⟨nk, b, u, v, r, e, q1, q2, rep_w h1 h2 k _ q3, q4, rep_w h1 h2 d v q5, repn_w h1 h2 ds r q6⟩
end
/-- a numbered thing lies at a -/
def ObOk (p : WP) (ref : Nat → V) (P : PM) (H : Hp) (a : Addr) : Ob → Prop
  | .ins fs => ∃ dx xs, H a = some (.ins p.lc dx ((fs.map (·.1)).zip xs)) ∧ Reps p.K (plainW Dk p.pw ref) P (fs.map (·.2)) xs
  | .lst ds => ∃ xs, H a = some (.lst xs) ∧ ds.length ≤ sizeLine ∧ Reps p.K (plainW Dk p.pw ref) P ds xs
  | .exc C (some k) => ∃ d, P.ob (k + 4) = some d ∧ H a = some (exo a (He.ga p.K C) (some d))
  | .exc C none => H a = some (exo a (He.ga p.K C) none)
  | .xd f x => ∃ xs, H a = some (exd a [(f, xs)]) ∧ Rep p.K (plainW Dk p.pw ref) P x xs
theorem ObOk.keep {p : WP} {ref : Nat → V} {P P' : PM} {H H' : Hp} {a : Addr} {x : Ob} (h : ObOk p ref P H a x) (hP : LeP P P') (hb : ∀ n a, P.ob n = some a → P'.ob n = some a) (e : ∀ o, H a = some o → H' a = some o) : ObOk p ref P' H' a x := by
  cases x with
  | ins fs =>
    obtain ⟨dx, xs, h0, h1⟩ := h
    exact ⟨dx, xs, e _ h0, h1.le hP hb⟩
  | lst ds =>
    obtain ⟨xs, h0, z, h1⟩ := h
    exact ⟨xs, e _ h0, z, h1.le hP hb⟩
  | exc C k =>
    cases k with
    | none => exact e _ h
    | some k => obtain ⟨d, h0, h1⟩ := h; exact ⟨d, hb _ _ h0, e _ h1⟩
  | xd f x => obtain ⟨v, h0, h1⟩ := h; exact ⟨v, e _ h0, h1.le hP hb⟩
theorem ObOk.there {p : WP} {ref : Nat → V} {P : PM} {H : Hp} {a : Addr} {x : Ob} (h : ObOk p ref P H a x) : H a ≠ none := by
  cases x with
  | ins fs => obtain ⟨dx, xs, h0, _⟩ := h; rw [h0]; simp
  | lst ds => obtain ⟨xs, h0, _⟩ := h; rw [h0]; simp
  | exc C k =>
    cases k with
    | none => rw [show H a = _ from h]; simp
    | some k => obtain ⟨d, _, h1⟩ := h; rw [h1]; simp
  | xd f x => obtain ⟨v, h0, _⟩ := h; rw [h0]; simp
/-- all numbered things -/
structure ObsOk (p : WP) (ref : Nat → V) (far : Addr → Prop) (P : PM) (H : Hp) (os : List Ob) : Prop where
  low : ∀ n, n < 4 → P.ob n = none
  one : ∀ (i : Nat) x, os[i]? = some x → ∃ a, P.ob (i + 4) = some a ∧ ObOk p ref P H a x
  end_ : ∀ i : Nat, os[i]? = none → P.ob (i + 4) = none
  inj : ∀ n m a, P.ob n = some a → P.ob m = some a → n = m
  far : ∀ n a, P.ob n = some a → ¬ far a
theorem ObsOk.keep {p : WP} {ref : Nat → V} {far : Addr → Prop} {P P' : PM} {H H' : Hp} {os : List Ob} (h : ObsOk p ref far P H os) (hP : LeP P P') (hb : P'.ob = P.ob) (e : ∀ n a, P.ob n = some a → H' a = H a) : ObsOk p ref far P' H' os := by
  refine ⟨fun n hn => by rw [hb]; exact h.low n hn, fun i x hx => ?_, fun i hi => by rw [hb]; exact h.end_ i hi, fun n m a h1 h2 => h.inj n m a (by rw [← hb]; exact h1) (by rw [← hb]; exact h2), fun n a h1 => h.far n a (by rw [← hb]; exact h1)⟩
  obtain ⟨a, ea, q⟩ := h.one i x hx
  exact ⟨a, by rw [hb]; exact ea, q.keep hP (fun n a z => by rw [hb]; exact z) fun o z => by rw [e _ _ ea]; exact z⟩
theorem ObsOk.at_ {p : WP} {ref : Nat → V} {far : Addr → Prop} {P : PM} {H : Hp} {os : List Ob} (h : ObsOk p ref far P H os) {n : Nat} {a : Addr} (e : P.ob n = some a) : ∃ i x, n = i + 4 ∧ os[i]? = some x ∧ ObOk p ref P H a x := by
  by_cases hn : n < 4
  · rw [h.low n hn] at e; cases e
  · obtain ⟨i, rfl⟩ : ∃ i, n = i + 4 := ⟨n - 4, by omega⟩
    cases hx : os[i]? with
    | none => rw [h.end_ i hx] at e; cases e
    | some x =>
      obtain ⟨a', ea, q⟩ := h.one i x hx
      rw [ea] at e; cases e
      exact ⟨i, x, rfl, hx, q⟩
theorem ObsOk.nil {p : WP} {ref : Nat → V} {far : Addr → Prop} {P : PM} {H : Hp} (h : ∀ n, P.ob n = none) : ObsOk p ref far P H [] :=
  ⟨fun n _ => h n, fun i x e => by simp at e, fun i _ => h _, fun n m a e _ => by rw [h n] at e; exact absurd e (by simp), fun n a e => by rw [h n] at e; exact absurd e (by simp)⟩
def refD (a0 a1 a2 : Addr) (la : Option Addr) : Nat → V := fun n => match n with
  | 0 => .ref a0
  | 1 => .ref a1
  | 2 => .ref a2
  | 3 => match la with
    | some a => .ref a
    | none => .non
  | _ => .non
/-- the deck, the tables of lambdas T, a list that is lent -/
def deckL (pw : WP) (T : List (Addr × Str)) (a0 a1 a2 : Addr) (h01 : a0 ≠ a1) (h02 : a0 ≠ a2) (h12 : a1 ≠ a2) (hT : ∀ p ∈ T, p.1 ≠ a0 ∧ p.1 ≠ a1 ∧ p.1 ≠ a2) (la : Option Addr) (hla : ∀ a, la = some a → a ≠ a0 ∧ a ≠ a1 ∧ a ≠ a2 ∧ ∀ p ∈ T, p.1 ≠ a) : Wd Dk where
  pw := pw.pw
  fp := fun ob a => a = a0 ∨ a = a1 ∨ a = a2 ∨ (∃ p ∈ T, p.1 = a) ∨ la = some a ∨ ∃ n, ob n = some a
  holds := fun g P H => H a0 = some (.lst [.ref a1, .ref a2, .int g.turn]) ∧ H a1 = some (.lst (g.big.map V.int)) ∧ H a2 = some (.lst (g.cells.map V.int)) ∧ g.big.length ≤ sizeLine ∧ g.cells.length ≤ sizeLine ∧ LamX.Tabs T H ∧ LoanOk la g.loan H ∧ ObsOk pw (refD a0 a1 a2 la) (fun a => a = a0 ∨ a = a1 ∨ a = a2 ∨ (∃ p ∈ T, p.1 = a) ∨ la = some a) P H g.objs
  ref := refD a0 a1 a2 la
  loc := fun g P P' H H' h hP hb e k => by
    rw [e a0 (.inl rfl), e a1 (.inr (.inl rfl)), e a2 (.inr (.inr (.inl rfl)))]
    exact ⟨h.1, h.2.1, h.2.2.1, h.2.2.2.1, h.2.2.2.2.1, tabs_keep h.2.2.2.2.2.1 (fun p hp => e _ (.inr (.inr (.inr (.inl ⟨p, hp, rfl⟩))))) k, h.2.2.2.2.2.2.1.keep fun a ha => e a (.inr (.inr (.inr (.inr (.inl ha))))), h.2.2.2.2.2.2.2.keep hP hb fun n a ha => e a (.inr (.inr (.inr (.inr (.inr ⟨n, ha⟩)))))⟩
  mono := fun ob ob' a ho h => by
    rcases h with h | h | h | h | h | ⟨n, h⟩
    · exact .inl h
    · exact .inr (.inl h)
    · exact .inr (.inr (.inl h))
    · exact .inr (.inr (.inr (.inl h)))
    · exact .inr (.inr (.inr (.inr (.inl h))))
    · exact .inr (.inr (.inr (.inr (.inr ⟨n, ho n a h⟩))))
  there := fun g P H a h ha => by
    rcases ha with rfl | rfl | rfl | ⟨p, hp, rfl⟩ | ha | ⟨n, ha⟩
    · rw [h.1]; simp
    · rw [h.2.1]; simp
    · rw [h.2.2.1]; simp
    · obtain ⟨ps, e⟩ := tabs_there h.2.2.2.2.2.1 hp
      rw [e]; simp
    · subst ha
      have := h.2.2.2.2.2.2.1
      cases hg : g.loan with
      | none => rw [hg] at this; exact this.elim
      | some l =>
        rw [hg] at this
        obtain ⟨z, vs, _, e⟩ := this
        rw [e]; simp
    · obtain ⟨i, x, _, _, q⟩ := h.2.2.2.2.2.2.2.at_ ha
      exact q.there
theorem noLa {T : List (Addr × Str)} {a0 a1 a2 : Addr} : ∀ a, (none : Option Addr) = some a → a ≠ a0 ∧ a ≠ a1 ∧ a ≠ a2 ∧ ∀ p ∈ T, p.1 ≠ a := fun _ h => nomatch h
abbrev deckW (pw : WP) (T : List (Addr × Str)) (a0 a1 a2 : Addr) (h01 : a0 ≠ a1) (h02 : a0 ≠ a2) (h12 : a1 ≠ a2) (hT : ∀ p ∈ T, p.1 ≠ a0 ∧ p.1 ≠ a1 ∧ p.1 ≠ a2) : Wd Dk := deckL pw T a0 a1 a2 h01 h02 h12 hT none noLa
/-- the deck, and the tables of lambdas T -/
def DFT (pw : WP) (T : List (Addr × Str)) (W : Wd Dk) : Prop := ∃ a0 a1 a2 h01 h02 h12 hT la hla, W = deckL pw T a0 a1 a2 h01 h02 h12 hT la hla
def DF (pw : WP) (W : Wd Dk) : Prop := ∃ T, DFT pw T W
def rdD (g : Dk) : Nat → Option D
  | 0 => some (.lst [.obj 1, .obj 2, .int g.turn])
  | 1 => some (.lst (g.big.map D.int))
  | 2 => some (.lst (g.cells.map D.int))
  | 3 => none
  | n + 4 => match g.objs[n]? with
    | some (.lst ds) => some (.lst ds)
    | _ => none
theorem reps_ints {G : Type} {K : PySem.W.Frag} {W : Wd G} {P : PM} : ∀ ns : List Int, Reps K W P (ns.map D.int) (ns.map V.int)
  | [] => by simp [Reps]
  | n :: ns => by
    rw [List.map_cons, List.map_cons]
    simp only [Reps]
    exact ⟨_, _, rfl, by simp, reps_ints ns⟩
theorem rep_objD {G : Type} {K : PySem.W.Frag} {W : Wd G} {P : PM} {n : Nat} {v : V} (hn : n < 4) : Rep K W P (.obj n) v ↔ v = W.ref n := by
  simp only [Rep]
  constructor
  · rintro (⟨_, h⟩ | ⟨h, _⟩)
    · exact h
    · omega
  · exact fun h => .inl ⟨hn, h⟩
theorem rep_objN {G : Type} {K : PySem.W.Frag} {W : Wd G} {P : PM} {n : Nat} {v : V} : Rep K W P (.obj (n + 4)) v ↔ ∃ a, P.ob (n + 4) = some a ∧ v = .ref a := by
  simp only [Rep]
  constructor
  · rintro (⟨h, _⟩ | ⟨_, h⟩)
    · omega
    · exact h
  · exact fun h => .inr ⟨by omega, h⟩
theorem repsP {G : Type} {K : PySem.W.Frag} {W : Wd G} {P : PM} {ds : List D} {vs : List V} (h : Reps K (plainW G W.pw W.ref) P ds vs) : Reps K W P ds vs := reps_w (W := plainW G W.pw W.ref) (W' := W) rfl rfl ds vs h
theorem rdW {pw : WP} : RdW pw.K (DF pw) rdD := by
  intro W hW P H g n d v hh hd hv
  obtain ⟨T, a0, a1, a2, h01, h02, h12, hT, la, hla, rfl⟩ := hW
  obtain ⟨h0, h1, h2, z1, z2, tb, lo, ob⟩ := hh
  match n, hd with
  | 0, hd =>
    rw [rep_objD (by decide)] at hv
    subst hv
    cases hd
    refine ⟨a0, _, rfl, h0, by rw [sizeLine_eq]; simp, ?_⟩
    simp only [Reps]
    exact ⟨_, _, rfl, (rep_objD (by decide)).mpr rfl, _, _, rfl, (rep_objD (by decide)).mpr rfl, _, _, rfl, by simp only [Rep], rfl⟩
  | 1, hd =>
    rw [rep_objD (by decide)] at hv
    subst hv
    cases hd
    exact ⟨a1, _, rfl, h1, by simpa using z1, reps_ints _⟩
  | 2, hd =>
    rw [rep_objD (by decide)] at hv
    subst hv
    cases hd
    exact ⟨a2, _, rfl, h2, by simpa using z2, reps_ints _⟩
  | 3, hd => cases hd
  | n + 4, hd =>
    rw [rep_objN] at hv
    obtain ⟨a, ea, rfl⟩ := hv
    obtain ⟨i, x, ei, ex, q⟩ := ob.at_ ea
    have : i = n := by omega
    subst this
    simp only [rdD, ex] at hd
    cases x with
    | ins fs => cases hd
    | exc C k => cases hd
    | xd f x => cases hd
    | lst ds =>
      cases hd
      obtain ⟨xs, hx, hz, rp⟩ := q
      exact ⟨a, xs, rfl, hx, hz, repsP rp⟩
def wput (g : Dk) : Nat → Int → Int → Option Dk
  | 1, 0, m => match g.big with
    | _ :: r => some { g with big := m :: r }
    | [] => none
  | 0, 2, m => some { g with turn := m }
  | _, _, _ => none
def mPutW (fo fi fv : M Dk S) : M Dk Fl := fun st g => bnd (fv st g) fun x st g => bnd (fo st g) fun o st g => bnd (fi st g) fun i st g =>
  match x, o, i with
  | .sh (.int m), .sh (.obj n), .sh (.int k) => (wput g n k m).map fun g' => (.nx, st, g')
  | _, _, _ => none
def mPopW (fo : M Dk S) : M Dk S := fun st g => bnd (fo st g) fun o st g =>
  match o, g.big with
  | .sh (.obj 1), b :: r => some (.sh (.int b), st, { g with big := r })
  | _, _ => none
section
variable {C : CF} {a b c o i v : Expr} {fo fi fv : M Dk S} {pos p p1 p2 : Pos}
theorem ev_putW {K : PySem.W.Frag} {W : Wd Dk} {pw : WP} (hW : DF pw W) {to ti tv : TE} (eo : EvE K W to fo) (ei : EvE K W ti fi) (ev : EvE K W tv fv) : EvS K W (tAsg tv (gSub to ti rSetL)) (mPutW fo fi fv) := by
  intro P₀ H₀ σ st τ ts H g fl st' g' E n R h q
  obtain ⟨x, st1, g1, e1, k1⟩ := bnd_eq h
  clear h
  obtain ⟨oo, st2, g2, e2, k2⟩ := bnd_eq k1
  clear k1
  obtain ⟨ii, st3, g3, e3, h⟩ := bnd_eq k2
  clear k2
  refine ev _ _ _ _ _ _ _ _ _ _ _ _ R e1 fun xv H1 R1 => ?_
  refine eo _ _ _ _ _ _ _ _ _ _ _ _ R1 e2 fun ov H2 R2 => ?_
  refine ei _ _ _ _ _ _ _ _ _ _ _ _ R2 e3 fun iv H3 R3 => ?_
  obtain ⟨P, O, R3⟩ := R3
  split at h
  · rename_i m n k
    obtain ⟨g4, e4, h⟩ := Option.map_eq_some_iff.mp h
    simp only [Prod.mk.injEq] at h; obtain ⟨rfl, rfl, rfl⟩ := h
    have r1 : Rep K W P (.int m) xv := R3.temps.2.2.1
    have r2 : Rep K W P (.obj n) ov := R3.temps.2.1
    have r3 : Rep K W P (.int k) iv := R3.temps.1
    rw [rep_int] at r1 r3
    subst r1 r3
    have R4 := R3.pop.pop.pop
    obtain ⟨T, a0, a1, a2, h01, h02, h12, hT, la, hla, rfl⟩ := hW
    have hh := R4.wld
    obtain ⟨h0, h1, h2, z1, z2, tb, lo, ob⟩ := hh
    match n, k, e4 with
    | 1, 0, e4 =>
      rw [rep_objD (by decide)] at r2
      subst r2
      simp only [wput] at e4
      cases hb : g3.big with
      | nil => rw [hb] at e4; cases e4
      | cons b r =>
        rw [hb] at e4
        cases e4
        refine ⟨a1, _, 0, 0, rfl, rfl, h1, by rw [hb]; simp [ixN], ?_⟩
        refine q _ _ ⟨P, O, R4.world (fun a ha => upd_ne fun e => ha (.inr (.inl e))) ⟨?_, ?_, ?_, ?_, z2, tabs_upd tb h1 cod_lst fun p hp => (hT p hp).2.1, lo.keep fun a ha => upd_ne (hla a ha).2.1, ob.keep (LeP.refl P) rfl fun n a ha => upd_ne fun e => ob.far n a ha (.inr (.inl e))⟩⟩
        · rw [upd_ne h01]; exact h0
        · rw [upd_same, hb]; rfl
        · rw [upd_ne (Ne.symm h12)]; exact h2
        · rw [hb] at z1; simpa using z1
    | 0, 2, e4 =>
      rw [rep_objD (by decide)] at r2
      subst r2
      cases e4
      refine ⟨a0, _, 2, 2, rfl, rfl, h0, by simp [ixN], ?_⟩
      refine q _ _ ⟨P, O, R4.world (fun a ha => upd_ne fun e => ha (.inl e)) ⟨?_, ?_, ?_, z1, z2, tabs_upd tb h0 cod_lst fun p hp => (hT p hp).1, lo.keep fun a ha => upd_ne (hla a ha).1, ob.keep (LeP.refl P) rfl fun n a ha => upd_ne fun e => ob.far n a ha (.inl e)⟩⟩
      · rw [upd_same]; rfl
      · rw [upd_ne (Ne.symm h01)]; exact h1
      · rw [upd_ne (Ne.symm h02)]; exact h2
  · cases h
theorem d_putW {pw : WP} (ho : DE C (DF pw) o fo) (hi : DE C (DF pw) i fi) (hv : DE C (DF pw) v fv) (ha : ∀ j w', assign (.Subscript o i p) (C.X j).env w' = (do
      let ov ← holding [w'] (eval o (C.X j).env)
      let iv ← holding [w', ov] (eval i (C.X j).env)
      standAt p
      holding [w', ov, iv] (setItem ov iv w')
      release [w', ov, iv] []) := by intro _ _; rfl) (hs : ∀ j, swapsWithSole [.Subscript o i p] v pos.line (C.X j).env = pure false := by intro _; rfl) (hw : ∀ j, swappedStores [.Subscript o i p] v (C.X j).env = pure none := by intro _; rfl)
    (h1 : ∀ j, (assignEach [.Subscript o i p] (C.X j).env).map (·.2) = [assign (.Subscript o i p) (C.X j).env] := by intro _; rfl) : DS C (DF pw) (.Assign [.Subscript o i p] v pos) (mPutW fo fi fv) := by
  obtain ⟨to, po, eo⟩ := ho.ex
  obtain ⟨ti, pi, ei⟩ := hi.ex
  obtain ⟨tv, pv, ev⟩ := hv.ex
  exact ⟨_, fun j => ps_asg (pv j) (pg_sub (po j) (pi j) set_list (ha j)) (hs j) (hw j) (h1 j), fun W hW => ev_putW hW (eo W hW) (ei W hW) (ev W hW)⟩
theorem d_popW {k} {pw : WP} (ho : DE C (DF pw) o fo) (hbase : ∀ j, attributeBase o "pop" (C.X j).env (eval o (C.X j).env) = eval o (C.X j).env := by intro _; rfl)
    (hfew : ∀ j, ((backTo pos (starEach [.Constant (.int 0) k p1] (C.X j).env)).all (fun x => !x.1) && (backToKw pos (keywordEach [] (C.X j).env)).all (fun x => x.1.isSome) && decide ([Expr.Constant (.int 0) k p1].length + ([] : List Keyword).length + (if ([] : List Keyword).isEmpty then 0 else 1) < 30)) = true := by intro _; rfl)
    (hline : (p2.endLine == pos.line) = true := by rfl) : DE C (DF pw) (.Call (.Attribute o "pop" p2) [.Constant (.int 0) k p1] [] pos) (mPopW fo) := by
  obtain ⟨to, po, eo⟩ := ho.ex
  refine ⟨tBM C.K "list" rPopAt to (tCons (tC (.int 0)) tNil), fun j => by rw [← C.hK j]; exact pe_bm PySem.F.plainAttrs_list PySem.F.slot_list_pop PySem.F.type_list_pop mt_popAt (po j) (pa_cons pe_int pa_nil rfl) (hbase j) (hfew j) hline rfl, fun W hW => ?_⟩
  intro P₀ H₀ σ st τ ts H g z st' g' Q R h q
  obtain ⟨x, st1, g1, e1, h⟩ := bnd_eq h
  refine eo W hW _ _ _ _ _ _ _ _ _ _ _ _ R e1 fun ov H1 R1 => ?_
  obtain ⟨P, O, R1⟩ := R1
  split at h
  · rename_i b r hb
    cases h
    have r2 : Rep C.K W P (.obj 1) ov := R1.temps.1
    rw [rep_objD (by decide)] at r2
    subst r2
    have R2 := R1.pop
    obtain ⟨T, a0, a1, a2, h01, h02, h12, hT, la, hla, rfl⟩ := hW
    obtain ⟨h0, h1, h2, z1, z2, tb, lo, ob⟩ := R2.wld
    rw [hb] at h1 z1
    refine ⟨.inl ⟨rfl, _, SqL.of h1⟩, a1, _, 0, 0, .int b, rfl, rfl, h1, by decide, by decide, by simp [seqIndex?], rfl, ?_⟩
    refine q _ _ (RelB.ofSh (P := P) (O := O) (R2.world (fun a ha => upd_ne fun e => ha (.inr (.inl e))) ⟨?_, ?_, ?_, ?_, z2, tabs_upd tb h1 cod_lst fun p hp => (hT p hp).2.1, lo.keep fun a ha => upd_ne (hla a ha).2.1, ob.keep (LeP.refl P) rfl fun n a ha => upd_ne fun e => ob.far n a ha (.inr (.inl e))⟩) (by simp))
    · rw [upd_ne h01]; exact h0
    · rw [upd_same]; rfl
    · rw [upd_ne (Ne.symm h12)]; exact h2
    · simp at z1; show r.length ≤ sizeLine; omega
  · cases h
end
/-! ### a new deck -/
def deck0 (ns : List Int) : Dk := ⟨(ns.map fun n => if n < 0 then -n else n).filter fun n => decide ((10 : Int) ^ 18 ≤ n), (ns.map fun n => if n < 0 then -n else n) ++ [(ns.length : Int) + 5], 0, none, []⟩
end DL
namespace DL
open PySem PySem.Spec PyProof.Rows L2
theorem funOf {K : PySem.W.Frag} {x : Str} {st : Stmt} {f : Addr} {fd : FuncData} (F : FunD K x x (defArgs st) (defBody st) (defScope st) [] [] f fd) : Fun K x x st f fd := by
  obtain ⟨oc, od, dV, kV, doc, pm, an, cdv, ct, osl, rfl, lk, hcd, hD, _⟩ := F.ex
  rcases hD with ⟨_, rfl⟩ | ⟨e, _⟩
  · exact ⟨⟨oc, od, kV, doc, pm, an, cdv, ct, osl, rfl, lk, hcd⟩, F.kp⟩
  · exact absurd rfl e
/-! ### the script as a world -/
def SqW (K : PySem.W.Frag) (ns : List Int) (W : Wd Unit) : Prop := ns.length ≤ sizeLine ∧ ∃ a, W.ref 0 = .ref a ∧ ∀ g P H, W.holds g P H → SqL K H a (ns.map V.int)
def mScr (i : Nat) (ns : List Int) : M Unit (List D × List S) := fun st g => match st[i]? with
  | some (some (.sh (.obj 0))) => some ((ns.map D.int, [.sh (.obj 0)]), st, g)
  | _ => none
theorem i_scr {C : CF} {tg : Expr} {ns : List Int} (i : Nat) {x : Str} {p : Pos} (hN : C.N[i]? = some x := by rfl) (hvis : ∀ j, Vis (C.X j).env.scope x := by intro _; first | exact Or.inl rfl | exact Or.inr (Or.inl rfl) | exact Or.inr (Or.inr rfl)) (hd : (x == ("__debug__" : Str)) = false := by decide)
    (hcd : (x == ("__classdict__" : Str)) = false := by decide) : DI C (SqW C.K ns) false tg (.Name x p) (mScr i ns) := by
  refine ⟨iList C.K (tVar i), fun j => by rw [← C.hK j]; exact pi_list (pe_var (i := i) (by rw [C.hN j]; exact hN) (hvis j) hd hcd), fun W hW P₀ H₀ σ st τ ts H g items cells st' g' R Rl h q => ?_⟩
  unfold mScr at h
  split at h
  · rename_i e
    simp only [Option.some.injEq, Prod.mk.injEq] at h; obtain ⟨⟨rfl, rfl⟩, rfl, _⟩ := h
    obtain ⟨hz, a, ea, hh⟩ := hW
    obtain ⟨P, O, Rl⟩ := Rl
    obtain ⟨v, e1, e2, rv⟩ := Rl.slot e
    have rv : Rep C.K W P (.obj 0) v := rv
    rw [rep_objD (by decide), ea] at rv
    subst rv
    have sq := hh g P H Rl.wld
    refine ⟨.ref a, e1, a, rfl, ⟨_, sq⟩, q _ [.ref a] H ⟨P, O, Rl.push ((rep_objD (by decide)).mpr ea.symm)⟩ ?_⟩
    refine ⟨by simpa using hz, rfl, noAt_sh _, fun P₀ H₀ σ st ρ rs τ ts H g hl R => ?_⟩
    obtain ⟨P, O, R⟩ := R
    have sq' := hh g P H R.wld
    refine ⟨fun i d e => ?_, fun i hi => ⟨_, sq', by simpa using hi⟩⟩
    rw [List.getElem?_map] at e
    obtain ⟨n, en, rfl⟩ := Option.map_eq_some_iff.mp e
    have ex : (ns.map V.int)[i]? = some (.int n) := by rw [List.getElem?_map, en]; rfl
    refine ⟨⟨_, _, sq', ex⟩, fun y H' ⟨e1, e2⟩ => ?_⟩
    subst e1
    have : some (V.int n) = some y := ex.symm.trans (e2 _ sq')
    cases this
    exact ⟨P, O, R, by simp [RepF]⟩
  · cases h
/-- the two worlds of a script -/
def scrK (pw : World) (T : List (Addr × Str)) (a : Addr) : Wd Unit where
  pw := pw
  fp := fun _ b => ∃ p ∈ T, p.1 = b
  holds := fun _ _ H => LamX.Tabs T H
  ref := fun _ => .ref a
  loc := fun _ _ _ _ _ h _ _ e k => tabs_keep h (fun p hp => e _ ⟨p, hp, rfl⟩) k
  mono := fun _ _ _ _ h => h
  there := fun _ _ _ _ h ⟨p, hp, e⟩ => by obtain ⟨ps, z⟩ := tabs_there h hp; rw [← e, z]; simp
def scrF (pw : World) (T : List (Addr × Str)) (a : Addr) (o : HO) : Wd Unit where
  pw := pw
  fp := fun _ b => b = a ∨ ∃ p ∈ T, p.1 = b
  holds := fun _ _ H => H a = some o ∧ LamX.Tabs T H
  ref := fun _ => .ref a
  loc := fun _ _ _ H H' h _ _ e k => ⟨by rw [e a (.inl rfl)]; exact h.1, tabs_keep h.2 (fun p hp => e _ (.inr ⟨p, hp, rfl⟩)) k⟩
  mono := fun _ _ _ _ h => h
  there := fun _ _ H b h e => by
    rcases e with e | ⟨p, hp, e⟩
    · rw [e, h.1]; simp
    · obtain ⟨ps, z⟩ := tabs_there h.2 hp; rw [← e, z]; simp
theorem scr_of (pw : World) {T : List (Addr × Str)} {K : PySem.W.Frag} {H : Hp} {a : Addr} {ns : List Int} (tb : LamX.Tabs T H) (h : SqL K H a (ns.map V.int)) (hz : ns.length ≤ sizeLine) : ∃ W, SqW K ns W ∧ W.ref 0 = .ref a ∧ W.holds () PM.nil H ∧ ∀ P H', W.holds () P H' → LamX.Tabs T H' := by
  rcases h with (h | ⟨o, h⟩) | h
  · exact ⟨scrF pw T a _, ⟨hz, a, rfl, fun g _ H' e => .inl (.inl e.1)⟩, rfl, ⟨h, tb⟩, fun _ _ h => h.2⟩
  · exact ⟨scrF pw T a _, ⟨hz, a, rfl, fun g _ H' e => .inl (.inr ⟨o, e.1⟩)⟩, rfl, ⟨h, tb⟩, fun _ _ h => h.2⟩
  · exact ⟨scrK pw T a, ⟨hz, a, rfl, fun g _ H' e => .inr h⟩, rfl, tb, fun _ _ h => h⟩
/-! ### _law_deck -/
def spDeckT (T : List (Addr × Str)) (K : PySem.W.Frag) : Sp := fun vs H Q _ => ∃ (a : Addr) (ns : List Int), vs = [.ref a] ∧ SqL K H a (ns.map V.int) ∧ ns.length ≤ 63 ∧ LamX.Tabs T H ∧
  ∃ pw : WP, ∀ (H' : Hp) (a0 a1 a2 : Addr) (h01 : a0 ≠ a1) (h02 : a0 ≠ a2) (h12 : a1 ≠ a2) (hT : ∀ p ∈ T, p.1 ≠ a0 ∧ p.1 ≠ a1 ∧ p.1 ≠ a2), (deckW pw T a0 a1 a2 h01 h02 h12 hT).holds (deck0 ns) PM.nil H' → Q (.ref a0) H'
abbrev spDeck (K : PySem.W.Frag) : Sp := spDeckT [] K
section
variable {P : Program} {w : World} {K : PySem.W.Frag} {mg : Str → Option Value} {base : Heap} {f : Addr} {fd : FuncData} {k : Nat}
theorem deck_of {T : List (Addr × Str)} {x s : Str} {stm s1 : Stmt} {e1 e2 : Expr} {N : List Str} {m1 : List Int → M Unit Fl} {f1 f2 : List Int → M Unit S} {pc pl pr : Pos} {kc} (F : Fun K x x stm f fd) (Sc : FnScope N [s] (defScope stm))
    (hb : defBody stm = [s1, .Return (some (.List [e1, e2, .Constant (.int 0) kc pc] pl)) pr])
    (d1 : ∀ ns, DS (fcx P w K mg base N k x stm f Sc.nd) (SqW K ns) s1 (m1 ns)) (d2 : ∀ ns, DE (fcx P w K mg base N k x stm f Sc.nd) (SqW K ns) e1 (f1 ns)) (d3 : ∀ ns, DE (fcx P w K mg base N k x stm f Sc.nd) (SqW K ns) e2 (f2 ns))
    (hst : ∀ env, starEach [e1, e2, .Constant (.int 0) kc pc] env = (false, eval e1 env) :: starEach [e2, .Constant (.int 0) kc pc] env) (hst2 : ∀ env, starEach [e2, .Constant (.int 0) kc pc] env = (false, eval e2 env) :: starEach [.Constant (.int 0) kc pc] env)
    (hm : ∀ ns : List Int, ns.length ≤ 63 → ∃ st1 st2 st3, m1 ns (some (.sh (.obj 0)) :: List.replicate (N.length - 1) none) () = some (.nx, st1, ()) ∧ f1 ns st1 () = some (.ow (.lst ((deck0 ns).big.map D.int)), st2, ()) ∧ f2 ns st2 () = some (.ow (.lst ((deck0 ns).cells.map D.int)), st3, ())) :
    DZ.FnG P w K mg base CX0 (k + 1) f fd [s] (spDeckT T K) := by
  refine DZ.fnG_of F Sc (fun vs H Q E h => ?_) (fun cdv A outer sh H vs Q E hr hgd h => ?_)
  · obtain ⟨a, ns, rfl, _⟩ := h; rfl
  · obtain ⟨a, ns, rfl, sq, hz, tb, pw, q⟩ := h
    have hz' : ns.length ≤ sizeLine := by rw [sizeLine_eq]; omega
    obtain ⟨W, hW, hr0, hh, htb⟩ := scr_of w tb sq hz'
    obtain ⟨t1, p1, v1⟩ := (d1 ns).ex
    obtain ⟨t2, p2, v2⟩ := (d2 ns).ex
    obtain ⟨t3, p3, v3⟩ := (d3 ns).ex
    obtain ⟨st1, st2, st3, g1, g2, g3⟩ := hm ns hz
    let j : FI k x stm f := ⟨cdv, A, outer, sh, H, E, hr, hgd⟩
    rw [hb]
    refine ⟨_, PSs.nox (pss_cons (p1 j) (pss_one (ps_ret (pe_lst (pa_cons (p2 j) (pa_cons (p3 j) (pa_cons pe_int pa_nil rfl) (hst2 _)) (hst _)))))), ?_⟩
    · have R : RelB K W PM.nil H PM.nil (fun _ => none) (L2.start N [.ref a]) (some (.sh (.obj 0)) :: List.replicate (N.length - 1) none) [] [] H () := by
        refine ⟨(fun _ _ e => nomatch e), (fun _ _ e _ => e), SubP.refl _, fun a e => absurd rfl e, fun a e => absurd rfl e, fun a e => .inl e, (fun a t e => nomatch e), hh, by simp [L2.start], fun i s e => ?_, trivial⟩
        cases i with
        | zero =>
          simp only [List.getElem?_cons_zero, Option.some.injEq] at e; subst e
          exact ⟨.ref a, rfl, (fun _ q => nomatch q), show Rep K _ PM.nil (.obj 0) _ from (rep_objD (by decide)).mpr hr0.symm⟩
        | succ i =>
          simp only [List.getElem?_cons_succ] at e
          have := List.mem_of_getElem? e
          rw [List.mem_replicate] at this
          cases this.2
      have no : NoAt ([] : List S) := fun i z => by cases z
      refine v1 W hW _ _ _ _ _ _ _ _ _ _ _ _ no ⟨_, _, R⟩ g1 fun σ1 H1 R1 => ?_
      refine v2 W hW _ _ _ _ _ _ _ _ _ _ _ _ R1 g2 fun u1 H2 R2 => ?_
      refine v3 W hW _ _ _ _ _ _ _ _ _ _ _ _ R2 g3 fun u2 H3 R3 => ?_
      obtain ⟨P3, O3, R3⟩ := R3
      obtain ⟨a2, o2, rfl, t2, q2, xs2, rfl, z2, r2⟩ := R3.temps.1
      obtain ⟨a1, o1, rfl, t1, q1, xs1, rfl, z1, r1⟩ := R3.temps.2.1
      refine ⟨by rw [sizeLine_eq]; simp, fun p hp => ?_⟩
      have ne : a1 ≠ a2 := fun e => by subst e; rw [t1] at t2; cases t2
      have e1 := intsD_rep (bs := (deck0 ns).big) (by
        have : ∀ l : List Int, intsD (l.map D.int) = some l := by intro l; induction l with | nil => rfl | cons x l ih => simp [intsD, ih]
        exact this _) r1
      have e2 := intsD_rep (bs := (deck0 ns).cells) (by
        have : ∀ l : List Int, intsD (l.map D.int) = some l := by intro l; induction l with | nil => rfl | cons x l ih => simp [intsD, ih]
        exact this _) r2
      subst e1 e2
      have n1 : p ≠ a1 := fun e => by subst e; rw [hp] at q1; cases q1
      have n2 : p ≠ a2 := fun e => by subst e; rw [hp] at q2; cases q2
      have tb3 := htb _ _ R3.wld
      have far : ∀ x ∈ T, x.1 ≠ p ∧ x.1 ≠ a1 ∧ x.1 ≠ a2 := fun x hx => by
        obtain ⟨ps, ep⟩ := tabs_there tb3 hx
        exact ⟨(fun e => by rw [e, hp] at ep; cases ep), (fun e => by rw [e, q1] at ep; cases ep), (fun e => by rw [e, q2] at ep; cases ep)⟩
      refine q _ p a1 a2 n1 n2 ne far ⟨?_, ?_, ?_, by simpa using z1, by simpa using z2, tabs_keep tb3 (fun x hx => upd_ne (far x hx).1) (keep_new hp), trivial, ObsOk.nil fun _ => rfl⟩
      · rw [upd_same]; rfl
      · rw [upd_ne (Ne.symm n1)]; exact q1
      · rw [upd_ne (Ne.symm n2)]; exact q2
/-! ### the law -/
def spTrue (K : PySem.W.Frag) : Sp := fun vs H Q _ => ∃ (a : Addr) (ns : List Int), vs = [.ref a] ∧ SqL K H a (ns.map V.int) ∧ ns.length ≤ 63 ∧ ∀ H', Q (.bl true) H'
theorem law_of {lc : Addr} {x s dk sd : Str} {stm : Stmt} {rest : List Stmt} {N : List Str} {b : M Dk Fl} {i : Nat} {pd ps pc pp pa : Pos} {fk : Addr} {fdk : FuncData} {kd : Nat} (F : Fun K x x stm f fd) (Sc : FnScope N [s] (defScope stm))
    (hb : defBody stm = .Assign [.Name sd pd] (.Call (.Name dk pc) [.Name s ps] [] pp) pa :: rest)
    (D0 : DZ.FnG P w K mg base CX0 kd fk fdk [s] (spDeck K)) (hmk : mg dk = some (.ref fk)) (hkp : PySem.W.keepIn K (.ref fk) = true) (hbd : Binds K fdk [s] [])
    (dr : DSs (fcx P w K mg base N k x stm f Sc.nd) (DF ⟨K, w, lc⟩) rest b) (hk : kd ≤ k := by decide)
    (hN0 : N[0]? = some s := by rfl) (hNi : N[i]? = some sd := by rfl) (hi0 : i ≠ 0 := by decide) (hgl : ∀ j : FI k x stm f, Gl ((fcx P w K mg base N k x stm f Sc.nd).X j) dk := by intro _; rfl) (hdb : (dk == ("__debug__" : Str)) = false := by decide) (hds : (s == ("__debug__" : Str)) = false := by decide) (hcs : (s == ("__classdict__" : Str)) = false := by decide)
    (hvs : ∀ j : FI k x stm f, Vis ((fcx P w K mg base N k x stm f Sc.nd).X j).env.scope s := by intro _; first | exact Or.inl rfl | exact Or.inr (Or.inl rfl) | exact Or.inr (Or.inr rfl))
    (hx : ∀ j : FI k x stm f, Loc ((fcx P w K mg base N k x stm f Sc.nd).X j).env.scope sd := by intro _; first | exact Or.inl rfl | exact Or.inr rfl) (hs : ∀ j : FI k x stm f, swapsWith (.Call (.Name dk pc) [.Name s ps] [] pp) (some (.Name sd pd)) pa.line ((fcx P w K mg base N k x stm f Sc.nd).X j).env = pure false := by intro _; rfl)
    (hf : ∀ j : FI k x stm f, ((fcx P w K mg base N k x stm f Sc.nd).X j).fn sd = true ∨ ((fcx P w K mg base N k x stm f Sc.nd).X j).env.scope.names.lookup sd = some .local := by intro _; first | exact .inl rfl | exact .inr rfl)
    (hgood : ∀ ns : List Int, ns.length ≤ 63 → ∃ st' g', b ((List.replicate N.length none).set i (some (.sh (.obj 0)))) (deck0 ns) = some (.rt (.bl true), st', g')) :
    DZ.FnG P w K mg base CX0 (k + 1) f fd [s] (spTrue K) := by
  refine DZ.fnG_of F Sc (fun vs H Q E h => ?_) (fun cdv A outer sh H vs Q E hr hgd h => ?_)
  · obtain ⟨a, ns, rfl, _⟩ := h; rfl
  · obtain ⟨a, ns, rfl, sq, hz, q⟩ := h
    obtain ⟨t, p, v⟩ := dr.ex
    obtain ⟨st', g', e⟩ := hgood ns hz
    let j : FI k x stm f := ⟨cdv, A, outer, sh, H, E, hr, hgd⟩
    rw [hb]
    refine ⟨_, PSs.nox (pss_cons (ps_set (i := i) Sc.nd hNi (hx j) (DZ.pe_callG D0 (hr.mono hk) hgd (hgl j) hmk hkp hbd (pass0 (X := (fcx P w K mg base N k x stm f Sc.nd).X j)) (pa_cons (pe_var (i := 0) hN0 (hvs j) hds hcs) pa_nil rfl) hdb rfl rfl) (hs j) (hf j)) (p j)), ?_⟩
    · have hlen : 0 < N.length := by
        cases N with
        | nil => simp at hN0
        | cons _ _ => simp
      have hi : i < N.length := (List.getElem?_eq_some_iff.mp hNi).1
      have s0 : (L2.start N [.ref a])[0]? = some (some (.ref a)) := rfl
      refine ⟨.ref a, s0, a, ns, rfl, sq, hz, (fun _ h => nomatch h), ⟨K, w, lc⟩, fun H' a0 a1 a2 h01 h02 h12 hT hh => ?_⟩
      have R : RelB K (deckW ⟨K, w, lc⟩ [] a0 a1 a2 h01 h02 h12 hT) PM.nil H' PM.nil (fun _ => none) ((L2.start N [.ref a]).set i (some (.ref a0))) ((List.replicate N.length none).set i (some (.sh (.obj 0)))) [] [] H' (deck0 ns) := by
        refine ⟨(fun _ _ e => nomatch e), (fun _ _ e _ => e), SubP.refl _, fun a e => absurd rfl e, fun a e => absurd rfl e, fun a e => .inl e, (fun a t e => nomatch e), hh, ?_, fun l s e => ?_, trivial⟩
        · simp [L2.start]; omega
        · by_cases hl : l = i
          · subst hl
            rw [List.getElem?_set_self (by simpa using hi)] at e
            simp only [Option.some.injEq] at e; subst e
            exact ⟨.ref a0, List.getElem?_set_self (by simp [L2.start]; omega), (fun _ q => nomatch q), show Rep K _ PM.nil (.obj 0) _ from (rep_objD (by decide)).mpr rfl⟩
          · rw [List.getElem?_set_ne (Ne.symm hl)] at e
            have := List.mem_of_getElem? e
            rw [List.mem_replicate] at this
            cases this.2
      have no : NoAt ([] : List S) := fun i z => by cases z
      refine v _ ⟨[], a0, a1, a2, h01, h02, h12, hT, none, noLa, rfl⟩ _ _ _ _ _ _ _ _ _ _ _ _ no ⟨_, _, R⟩ e fun σ' u H2 R2 => ?_
      obtain ⟨P2, O2, R2⟩ := R2
      have hu : Rep K (deckW ⟨K, w, lc⟩ [] a0 a1 a2 h01 h02 h12 hT) P2 (.bl true) u := R2.temps.1
      rw [rep_blk] at hu
      subst hu
      exact q H2
end
end DL
namespace DL
open PySem PySem.Spec PyProof.Rows L2
def DefOk (K : PySem.W.Frag) (mg : Str → Option Value) (x : Str) (st : Stmt) (ps : List Str) : Prop := ∃ f fd, Fun K x x st f fd ∧ mg x = some (.ref f) ∧ Binds K fd ps []
/-! ### a comprehension, a loop by an invariant -/
section
variable {G : Type}
theorem compM_rule {p : Pt} {vs : List Nat} {test : M G Bool} {elt : M G S} (J : Nat → List D → Sl → G → Prop) : ∀ (items : List D) (i : Nat) (acc : List D) (st : Sl) (g : G), J i acc st g →
    (∀ k d acc st g, items[k]? = some d → J (i + k) acc st g → ∃ st1, asg p d (wipeS st vs) = some st1 ∧ ∃ b st2 g2, test st1 g = some (b, st2, g2) ∧
      (b = true → ∃ y st3 g3, mTake elt st2 g2 = some (y, st3, g3) ∧ J (i + k + 1) (acc ++ [y]) st3 g3) ∧ (b = false → J (i + k + 1) acc st2 g2)) →
    ∃ acc' st' g', compM p vs test elt items acc st g = some (acc', st', g') ∧ J (i + items.length) acc' st' g'
  | [], i, acc, st, g, h, _ => ⟨acc, st, g, rfl, h⟩
  | d :: ds, i, acc, st, g, h, hs => by
    obtain ⟨st1, e1, b, st2, g2, e2, ht, hf⟩ := hs 0 d acc st g rfl h
    have tail : ∀ acc st g, J (i + 1) acc st g → ∃ acc' st' g', compM p vs test elt ds acc st g = some (acc', st', g') ∧ J (i + 1 + ds.length) acc' st' g' := fun acc st g hj =>
      compM_rule J ds (i + 1) acc st g hj fun k d acc st g e hj => by
        have := hs (k + 1) d acc st g (by simpa using e) (by rw [show i + (k + 1) = i + 1 + k by omega]; exact hj)
        rw [show i + (k + 1) + 1 = i + 1 + k + 1 by omega] at this
        exact this
    have el : i + (d :: ds).length = i + 1 + ds.length := by rw [List.length_cons]; omega
    rw [el]
    unfold compM
    rw [e1, Option.bind_some, e2, bnd_some]
    cases b with
    | true =>
      obtain ⟨y, st3, g3, e3, hj⟩ := ht rfl
      rw [if_pos rfl, e3, bnd_some]
      exact tail _ _ _ hj
    | false =>
      rw [if_neg (by simp)]
      exact tail _ _ _ (hf rfl)
/-- a comprehension whose parts draw nothing and keep the slots -/
theorem compM_pure {p : Pt} {vs : List Nat} {test : M G Bool} {elt : M G S} {f : D → Bool} {h : D → D} {w0 : Sl} {g : G} (items : List D) {st : Sl} (hw : wipeS st vs = w0)
    (hs : ∀ d ∈ items, ∃ st1, asg p d w0 = some st1 ∧ wipeS st1 vs = w0 ∧ test st1 g = some (f d, st1, g) ∧ (f d = true → mTake elt st1 g = some (h d, st1, g))) :
    ∃ st', compM p vs test elt items [] st g = some ((items.filter f).map h, st', g) ∧ wipeS st' vs = w0 := by
  obtain ⟨acc, st', g', e, rfl, hw', ha⟩ := compM_rule (p := p) (vs := vs) (test := test) (elt := elt) (fun i acc st g' => g' = g ∧ wipeS st vs = w0 ∧ acc = ((items.take i).filter f).map h) items 0 [] st g ⟨rfl, hw, by simp⟩ fun k d acc st g' e ⟨hg, hw, ha⟩ => by
    subst hg
    obtain ⟨st1, e1, e2, e3, e4⟩ := hs d (List.mem_of_getElem? e)
    rw [hw]
    refine ⟨st1, e1, f d, st1, g', e3, fun hb => ⟨h d, st1, g', e4 hb, rfl, e2, ?_⟩, fun hb => ⟨rfl, e2, ?_⟩⟩
    · rw [show 0 + k + 1 = k + 1 by omega, List.take_add_one, e, ha, show 0 + k = k by omega]
      simp [hb]
    · rw [show 0 + k + 1 = k + 1 by omega, List.take_add_one, e, ha, show 0 + k = k by omega]
      simp [hb]
  refine ⟨st', ?_, hw'⟩
  rw [e, ha]; simp
theorem forM_rule {p : Pt} {body : M G Fl} (J : Nat → Sl → G → Prop) : ∀ (items : List D) (i : Nat) (st : Sl) (g : G), J i st g →
    (∀ k d st g, items[k]? = some d → J (i + k) st g → ∃ st1, asg p d st = some st1 ∧ ∃ st2 g2, body st1 g = some (.nx, st2, g2) ∧ J (i + k + 1) st2 g2) →
    ∃ st' g', forM p body items st g = some (.nx, st', g') ∧ J (i + items.length) st' g'
  | [], i, st, g, h, _ => ⟨st, g, rfl, h⟩
  | d :: ds, i, st, g, h, hs => by
    obtain ⟨st1, e1, st2, g2, e2, hj⟩ := hs 0 d st g rfl h
    have := forM_rule J ds (i + 1) st2 g2 hj fun k d st g e hj => by
        have := hs (k + 1) d st g (by simpa using e) (by rw [show i + (k + 1) = i + 1 + k by omega]; exact hj)
        rw [show i + (k + 1) + 1 = i + 1 + k + 1 by omega] at this
        exact this
    have el : i + (d :: ds).length = i + 1 + ds.length := by rw [List.length_cons]; omega
    rw [el]
    unfold forM
    rw [e1, Option.bind_some, e2, bnd_some]
    exact this
end
/-! ### the deck is made -/
def dk1 (ns : List Int) : M Unit Fl := (mSet 1 (mLc (mScr 0 ns) (.nm 2) [2] mYes (mUn opAbs (mVar 2))))
def dk2 (ns : List Int) : M Unit S := (mLc (srcSeq (mVar 1)) (.nm 2) [2] (mTest (mOp (opCmp .GtE) (mVar 2) (mOp opPow (mC (.int 10)) (mC (.int 18))))) (mVar 2))
def dk3 (ns : List Int) : M Unit S := (mOp opAdd (mVar 1) (mLst (mCons (mOp opAdd (mUn opLen (mVar 1)) (mC (.int 5))) mNil)))
theorem okCmp_int (a b : Int) : okCmp (.int a) (.int b) = true := by simp [okCmp, D.pl, D.py, PySem.W.alike, PyData.depth]
theorem ltD_int (a b : Int) : PySem.W.dataLt (.int a) (.int b) = decide (a < b) := by
  unfold PySem.W.dataLt
  simp only [PySem.W.keyToks]
  by_cases e : a = b
  · subst e; rw [lex_irrefl]; simp
  · rw [lex_diff (O := itemOrd) (fun q => e (by simpa using q))]; rfl
theorem deck_good (ns : List Int) (hz : ns.length ≤ 63) : ∃ st1 st2 st3, dk1 ns (some (.sh (.obj 0)) :: List.replicate (["_law_script", "_law_cells", "_law_number"].length - 1) none) () = some (.nx, st1, ()) ∧ dk2 ns st1 () = some (.ow (.lst ((deck0 ns).big.map D.int)), st2, ()) ∧ dk3 ns st2 () = some (.ow (.lst ((deck0 ns).cells.map D.int)), st3, ()) := by
  have hz' : ns.length + 1 ≤ sizeLine := by rw [sizeLine_eq]; omega
  have c1 : ∃ st', compM (.nm 2) [2] mYes (mUn opAbs (mVar 2)) (ns.map D.int) [] [some (.sh (.obj 0)), none, none] () = some (((ns.map D.int).filter fun _ => true).map (fun d => match d with | .int n => .int (if n < 0 then -n else n) | d => d), st', ()) ∧ wipeS st' [2] = [some (.sh (.obj 0)), none, none] := by
    refine compM_pure _ rfl fun d hd => ?_
    obtain ⟨n, _, rfl⟩ := List.mem_map.mp hd
    exact ⟨_, rfl, rfl, rfl, fun _ => rfl⟩
  obtain ⟨s1, e1, w1⟩ := c1
  have i1 : (((ns.map D.int).filter fun _ => true).map (fun d => match d with | .int n => .int (if n < 0 then -n else n) | d => d)) = (ns.map fun n => if n < 0 then -n else n).map D.int := by
    rw [List.filter_eq_self.mpr (fun _ _ => rfl), List.map_map, List.map_map]; rfl
  rw [i1] at e1
  let cs := ns.map fun n => if n < 0 then -n else n
  have c2 : ∃ st', compM (.nm 2) [2] (mTest (mOp (opCmp .GtE) (mVar 2) (mOp opPow (mC (.int 10)) (mC (.int 18))))) (mVar 2) (cs.map D.int) [] [some (.sh (.obj 0)), some (.sh (.lst (cs.map D.int))), none] () = some (((cs.map D.int).filter fun d => match d with | .int n => decide ((10 : Int) ^ 18 ≤ n) | _ => false).map id, st', ()) ∧ wipeS st' [2] = [some (.sh (.obj 0)), some (.sh (.lst (cs.map D.int))), none] := by
    refine compM_pure _ rfl fun d hd => ?_
    obtain ⟨n, _, rfl⟩ := List.mem_map.mp hd
    refine ⟨_, rfl, rfl, ?_, fun _ => rfl⟩
    have e : mTest (mOp (opCmp .GtE) (mVar 2) (mOp opPow (mC (.int 10)) (mC (.int 18)))) [some (.sh (.obj 0)), some (.sh (.lst (cs.map D.int))), some (.sh (.int n))] () = some (!decide (n < (10 : Int) ^ 18), [some (.sh (.obj 0)), some (.sh (.lst (cs.map D.int))), some (.sh (.int n))], ()) := by
      have p : okPow 10 18 = true := by decide
      simp only [mTest, mOp, mVar, mC, List.getElem?_cons_succ, List.getElem?_cons_zero, bnd_some, peek, Option.bind_some, opI2, p, if_true, Option.map_some, opCmp, okCmp_int, cmpD, D.py, ltD_int]
      rfl
    refine e.trans ?_
    have : (!decide (n < (10 : Int) ^ 18)) = decide ((10 : Int) ^ 18 ≤ n) := by
      rw [← decide_not]
      exact decide_eq_decide.mpr Int.not_lt
    rw [this]
    rfl
  obtain ⟨s2, e2, w2⟩ := c2
  refine ⟨[some (.sh (.obj 0)), some (.ow (.lst (cs.map D.int))), none], [some (.sh (.obj 0)), some (.sh (.lst (cs.map D.int))), none], [some (.sh (.obj 0)), some (.sh (.lst (cs.map D.int))), none], ?_, ?_, ?_⟩
  · unfold dk1 mSet mLc mScr
    simp only [List.getElem?_cons_zero, bnd_some]
    rw [show (some (S.sh (D.obj 0)) :: List.replicate (["_law_script", "_law_cells", "_law_number"].length - 1) (none : Option S)) = [some (S.sh (D.obj 0)), none, none] from rfl, e1, bnd_some, bnd_some, w1]
    rfl
  · unfold dk2 mLc srcSeq
    have t1 : mTake (mVar 1) [some (.sh (.obj 0)), some (.ow (.lst (cs.map D.int))), none] () = some (.lst (cs.map D.int), [some (.sh (.obj 0)), some (.sh (.lst (cs.map D.int))), none], ()) := rfl
    rw [t1, bnd_some]
    simp only [bnd_some]
    rw [e2, bnd_some, w2, List.map_id, List.filter_map]
    rfl
  · have l1 : (cs.map D.int).length + 1 ≤ sizeLine := by simpa [cs] using hz'
    have l2 : (1 : Nat) ≤ sizeLine := by rw [sizeLine_eq]; decide
    simp only [dk3, mOp, mVar, mC, mUn, mLst, mCons, mNil, mTake, List.getElem?_cons_succ, List.getElem?_cons_zero, bnd_some, peek, take, Option.bind_some, Option.map_some, opAdd, opLen, List.length_cons, List.length_nil, l1, l2, if_true, Nat.zero_add]
    simp [deck0, cs]
end DL
namespace DL
open PySem PySem.Spec PyProof.Rows L2
variable {G : Type}
/-! ### calls by names -/
def KwB (K : PySem.W.Frag) (fd : FuncData) (ps : List Str) (ks : List Str) (pm : List Nat) : Prop := ∀ (s : Shared) (ws : List Value), K.In s.heap → ws.length = ks.length → BindsTo s fd ⟨[], ks.zip ws⟩ (ps.zip (pm.map fun i => ws.getD i .none))
structure FDK (P : Program) (w : World) (K : PySem.W.Frag) (mg : Str → Option Value) (base : Heap) (Fam : Wd G → Prop) (k : Nat) (x : Str) (n : Nat) (F : Fn G) (kl : List (List Str × List Nat)) : Prop where
  ex : ∃ f fd ps, DZ.FnG P w K mg base CX0 k f fd ps (spF K Fam n F) ∧ mg x = some (.ref f) ∧ PySem.W.keepIn K (.ref f) = true ∧ Binds K fd ps [] ∧ ps.length = n ∧ ∀ q ∈ kl, KwB K fd ps q.1 q.2
theorem FDK.fd {P : Program} {w : World} {K : PySem.W.Frag} {mg : Str → Option Value} {base : Heap} {Fam : Wd G → Prop} {k n : Nat} {x : Str} {F : Fn G} {kl : List (List Str × List Nat)} (h : FDK P w K mg base Fam k x n F kl) : FD P w K mg base Fam k x n F :=
  let ⟨f, fd, ps, a, b, c, d, _, _⟩ := h.ex; ⟨f, fd, ps, a, b, c, d⟩
structure DKs (C : CF) (Fam : Wd G → Prop) (ks : List Keyword) (f : M G (List D)) : Prop where
  ex : ∃ t, (∀ j, PK (C.X j) ks t) ∧ ∀ W, Fam W → EvA' C.K W t f
  len : ∀ st g ds st' g', f st g = some (ds, st', g') → ds.length = ks.length
def permD (pm : List Nat) (ds : List D) : List D := pm.map fun i => ds.getD i .non
def mCallK (pm : List Nat) (F : Fn G) (fa : M G (List D)) : M G S := fun st g => bnd (fa st g) fun ds st g => (F (permD pm ds) g).map fun p => (.sh p.1, st, p.2)
section
variable {C : CF} {Fam : Wd G → Prop} {e : Expr} {kws : List Keyword} {pos p kpos : Pos} {nm : Option Str}
theorem k_nil : DKs C Fam [] mNil := ⟨⟨_, fun _ => pk_nil, fun W hW P₀ H₀ σ st τ ts H g ds st' g' Q R h q => by
  simp only [mNil, Option.some.injEq, Prod.mk.injEq] at h; obtain ⟨rfl, rfl, rfl⟩ := h
  obtain ⟨P, O, R⟩ := R
  exact q [] H P O R (by simp [Reps])⟩, fun st g ds st' g' h => by
  simp only [mNil, Option.some.injEq, Prod.mk.injEq] at h; obtain ⟨rfl, rfl, rfl⟩ := h; rfl⟩
theorem k_cons {f : M G S} {r : M G (List D)} (he : DE C Fam e f) (hr : DKs C Fam kws r) : DKs C Fam (⟨nm, e, kpos⟩ :: kws) (mCons f r) := by
  obtain ⟨ta, pa, ea⟩ := he.ex
  obtain ⟨tb, pb, eb⟩ := hr.ex
  refine ⟨⟨_, fun j => pk_cons (pa j) (pb j), fun W hW P₀ H₀ σ st τ ts H g ds st' g' Q R h q => ?_⟩, fun st g ds st' g' h => by
    obtain ⟨d, st1, g1, e1, h⟩ := bnd_eq h
    obtain ⟨ds', st2, g2, e2, h⟩ := bnd_eq h
    simp only [Option.some.injEq, Prod.mk.injEq] at h; obtain ⟨rfl, rfl, rfl⟩ := h
    rw [List.length_cons, List.length_cons, hr.len _ _ _ _ _ e2]⟩
  obtain ⟨d, st1, g1, e1, h⟩ := bnd_eq h
  obtain ⟨ds', st2, g2, e2, h⟩ := bnd_eq h
  simp only [Option.some.injEq, Prod.mk.injEq] at h; obtain ⟨rfl, rfl, rfl⟩ := h
  obtain ⟨x, st0, e3, e4⟩ := mTake_eq e1
  refine ea W hW _ _ _ _ _ _ _ _ _ _ _ _ R e3 fun v H1 R1 => ?_
  obtain ⟨P, O, R1⟩ := R1
  obtain ⟨P', O', R1⟩ := R1.takeV e4
  refine eb W hW _ _ _ _ _ _ _ _ _ _ _ _ ⟨P', O', R1⟩ e2 fun vs H2 P2 O2 R2 rp => ?_
  refine q (v :: vs) H2 P2 O2 R2.pop ?_
  simp only [Reps]
  exact ⟨v, vs, rfl, R2.temps.1, rp⟩
end
end DL
namespace DL
open PySem PySem.Spec PyProof.Rows L2
variable {G : Type}
/-! ### a value that is shared from now on -/
def mShr (f : M G S) : M G S := fun st g => bnd (mTake f st g) fun d st g => some (.sh d, st, g)
theorem EvE.shr {K : PySem.W.Frag} {W : Wd G} {t : TE} {f : M G S} (h : EvE K W t f) : EvE K W t (mShr f) := by
  intro P₀ H₀ σ st τ ts H g z st' g' Q R e q
  obtain ⟨d, st1, g1, e1, e⟩ := bnd_eq e
  simp only [Option.some.injEq, Prod.mk.injEq] at e; obtain ⟨rfl, rfl, rfl⟩ := e
  obtain ⟨x, st0, e3, e4⟩ := mTake_eq e1
  refine h _ _ _ _ _ _ _ _ _ _ _ _ R e3 fun v H1 R1 => q v H1 ?_
  obtain ⟨P, O, R1⟩ := R1
  obtain ⟨P', O', R2⟩ := R1.takeV e4
  exact ⟨P', O', R2⟩
section
variable {C : CF} {Fam : Wd G → Prop} {e : Expr} {s : Stmt} {f : M G S}
theorem d_shr (h : DE C Fam e f) : DE C Fam e (mShr f) := let ⟨t, p, q⟩ := h.ex; ⟨t, p, fun W hW => (q W hW).shr⟩
theorem DS.shr {i : Nat} (h : DS C Fam s (mSet i f)) : DS C Fam s (mSet i (mShr f)) := by
  obtain ⟨t, p, q0⟩ := h.ex
  refine ⟨t, p, fun W hW P₀ H₀ σ st τ ts H g fl st' g' E n R h q => ?_⟩
  obtain ⟨x, st1, g1, e1, h⟩ := bnd_eq h
  obtain ⟨d, st2, g2, e2, e3⟩ := bnd_eq e1
  simp only [Option.some.injEq, Prod.mk.injEq] at e3; obtain ⟨rfl, rfl, rfl⟩ := e3
  obtain ⟨y, st0, e4, e5⟩ := mTake_eq e2
  split at h
  · rename_i hi
    simp only [Option.some.injEq, Prod.mk.injEq] at h; obtain ⟨rfl, rfl, rfl⟩ := h
    cases y with
    | sh d' =>
      cases e5
      exact q0 W hW _ _ _ _ _ _ _ _ _ _ _ _ n R (by unfold mSet; rw [e4, bnd_some, if_pos hi]) q
    | «at» j =>
      have hi' : i < st0.length := by
        simp only [take] at e5
        split at e5
        · cases e5; exact hi
        · cases e5; simpa using hi
        · cases e5
      exact q0 W hW _ _ _ _ _ _ _ _ _ _ _ _ n R (by unfold mSet; rw [e4, bnd_some, if_pos hi']; simp only [e5, Option.map_some]) q
    | any => cases e5
    | ow d' =>
      cases e5
      refine q0 W hW _ _ _ _ _ _ _ _ .nx (st2.set i (some (.ow d))) _ _ n R (by unfold mSet; rw [e4, bnd_some, if_pos hi]) ?_
      intro σ' H' R'
      obtain ⟨P, O, R'⟩ := R'
      have hs : (st2.set i (some (.ow d)))[i]? = some (some (.ow d)) := by rw [List.getElem?_set_self hi]
      obtain ⟨v, ev, _, _⟩ := R'.slot hs
      have R1 := R'.pushS (v := v) (s := .at i) ev
      obtain ⟨P', O', R2⟩ := R1.takeV (d := d) (st' := st2.set i (some (.sh d))) (by simp only [take, hs, List.set_set])
      exact q _ _ ⟨P', O', R2.pop⟩
  · cases h
end
end DL
/-! DX5: sets whose things are tuples of any depth. -/
namespace DX
open PySem PySem.Spec PyProof.Rows L2
section
variable {P : Program} {w : World} {E : Value → Shared → Prop}
/-- a thing of the set -/
def NK (h : Heap) (v : Value) (k : NestedKey) : Prop := (∃ a, v = .ref a) ∧ NestedIs h k v ∧ k.depth ≤ 8
end
end DX
namespace DX
open PySem PySem.Spec PyProof.Rows L2
/-- the things of a set as it keeps them -/
def kept (w : World) (L : List (Value × NestedKey)) : List (Int × Value) := L.map fun p => (p.2.hash w, p.1)
def hsOf (w : World) (L : List (Value × NestedKey)) : List Int := L.map fun p => p.2.hash w
structure NS (w : World) (h : Heap) (S : Addr) (L : List (Value × NestedKey)) (es : Array (Int × Value)) (ep : Nat) (t : SetTable) : Prop where
  ob : ∃ o, h.get? S = some o ∧ o.ExactSet ∧ o.data = .set es ep t
  eq : es.toList = kept w L
  tab : TabOk t (hsOf w L)
  nd : (L.map (·.2)).Nodup
  el : ∀ p ∈ L, NK h p.1 p.2
  led : w.params.followText "set-order" = true ∨ t.led = true
  room : L.length * 5 < t.mask * 3
  few : L.length < 64
section
variable {P : Program} {w : World} {A : Around} {E : Value → Shared → Prop} {s : Shared} {S : Addr} {L : List (Value × NestedKey)} {es : Array (Int × Value)} {ep : Nat} {t : SetTable} {x : Value} {k : NestedKey}
theorem kept_len (w : World) (L : List (Value × NestedKey)) : (kept w L).length = L.length := List.length_map ..
theorem hs_len (w : World) (L : List (Value × NestedKey)) : (hsOf w L).length = L.length := List.length_map ..
theorem size_of (e : es.toList = kept w L) : es.size = L.length := by rw [← Array.length_toList, e, kept_len]
theorem fits_of {h : Heap} (e : es.toList = kept w L) (T : TabOk t (hsOf w L)) (hm : L.length ≤ t.mask) : t.fits es.size = true := by
  have a := T.sz
  rw [hs_len] at a
  have b := size_of e
  simp only [SetTable.fits, SetTable.fill, T.dm, Bool.and_eq_true, beq_iff_eq, decide_eq_true_eq]
  constructor
  · omega
  · show t.place.size + 0 ≤ t.mask; omega
theorem NS.fits (R : NS w s.heap S L es ep t) : t.fits es.size = true := fits_of (h := s.heap) R.eq R.tab (by have := R.room; omega)
end
end DX
namespace DX
open PySem PySem.Spec PyProof.Rows L2
end DX
namespace DX
open PySem PySem.Spec PyProof.Rows L2
mutual
theorem nested_of {h : Heap} : ∀ (k : NestedKey) (v : Value) (as : List Addr), Reads h v k.data as → NestedIs h k v
  | .none, _, _, r => by cases r; exact .none
  | .num i, _, _, r => by cases r; exact .int _ _
  | .text x, _, _, r => by cases r; exact .text _ _
  | .tup ks, _, _, r => by
    cases r with
    | tuple a b c d => exact .tup a b c (nesteds_of ks _ _ d)
theorem nesteds_of {h : Heap} : ∀ (ks : List NestedKey) (vs : List Value) (as : List Addr), ReadsAll h vs (NestedKey.datas ks) as → NestedAll h ks vs
  | [], _, _, r => by cases r; exact .nil
  | k :: ks, _, _, r => by
    cases r with
    | cons a b => exact .cons (nested_of k _ _ a) (nesteds_of ks _ _ b)
end
def isTupK : NestedKey → Bool
  | .tup _ => true
  | _ => false
end DX
namespace DL
open PySem PySem.Spec PyProof.Rows L2
variable {G : Type}
/-! ### data as keys of any depth -/
theorem nksD_cons {d : D} {ds : List D} {r : List NestedKey} (h : nksD (d :: ds) = some r) : ∃ k ks, nkD d = some k ∧ nksD ds = some ks ∧ r = k :: ks := by
  simp only [nksD] at h
  split at h
  · rename_i k ks e1 e2; cases h; exact ⟨k, ks, e1, e2, rfl⟩
  · cases h
mutual
theorem nk_py : ∀ (d : D) (k : NestedKey), nkD d = some k → d.py = k.data
  | .int i, k, h => by simp only [nkD] at h; cases h; rfl
  | .str x, k, h => by simp only [nkD] at h; cases h; rfl
  | .tup ds, k, h => by
    simp only [nkD] at h
    obtain ⟨ks, e, rfl⟩ := Option.map_eq_some_iff.mp h
    simp only [D.py, NestedKey.data]
    rw [nks_py ds ks e]
  | .non, k, h => by simp [nkD] at h
  | .bl _, k, h => by simp [nkD] at h
  | .lst _, k, h => by simp [nkD] at h
  | .dct _, k, h => by simp [nkD] at h
  | .dcn _, k, h => by simp [nkD] at h
  | .obj _, k, h => by simp [nkD] at h
theorem nks_py : ∀ (ds : List D) (ks : List NestedKey), nksD ds = some ks → D.pys ds = NestedKey.datas ks
  | [], ks, h => by simp only [nksD] at h; cases h; rfl
  | d :: ds, r, h => by
    obtain ⟨k, ks, e1, e2, rfl⟩ := nksD_cons h
    simp only [D.pys, NestedKey.datas]
    rw [nk_py d k e1, nks_py ds ks e2]
end
mutual
theorem nk_pl : ∀ (d : D) (k : NestedKey), nkD d = some k → d.pl = true
  | .int i, k, h => rfl
  | .str x, k, h => rfl
  | .tup ds, k, h => by
    simp only [nkD] at h
    obtain ⟨ks, e, rfl⟩ := Option.map_eq_some_iff.mp h
    simp only [D.pl]
    exact nks_pl ds ks e
  | .non, k, h => by simp [nkD] at h
  | .bl _, k, h => by simp [nkD] at h
  | .lst _, k, h => by simp [nkD] at h
  | .dct _, k, h => by simp [nkD] at h
  | .dcn _, k, h => by simp [nkD] at h
  | .obj _, k, h => by simp [nkD] at h
theorem nks_pl : ∀ (ds : List D) (ks : List NestedKey), nksD ds = some ks → D.pls ds = true
  | [], ks, h => rfl
  | d :: ds, r, h => by
    obtain ⟨k, ks, e1, e2, rfl⟩ := nksD_cons h
    simp only [D.pls, nk_pl d k e1, nks_pl ds ks e2, Bool.and_self]
end
mutual
theorem nk_inj : ∀ (a b : D) (k : NestedKey), nkD a = some k → nkD b = some k → a = b
  | .int i, b, k, h, h2 => by
    simp only [nkD] at h; cases h
    cases b <;> simp [nkD] at h2
    rw [h2]
  | .str x, b, k, h, h2 => by
    simp only [nkD] at h; cases h
    cases b <;> simp [nkD] at h2
    rw [h2]
  | .tup ds, b, k, h, h2 => by
    simp only [nkD] at h
    obtain ⟨ks, e, rfl⟩ := Option.map_eq_some_iff.mp h
    cases b with
    | tup es =>
      simp only [nkD] at h2
      obtain ⟨ks', e', h3⟩ := Option.map_eq_some_iff.mp h2
      cases h3
      rw [nks_inj ds es ks e e']
    | _ => simp [nkD] at h2
  | .non, b, k, h, h2 => by simp [nkD] at h
  | .bl _, b, k, h, h2 => by simp [nkD] at h
  | .lst _, b, k, h, h2 => by simp [nkD] at h
  | .dct _, b, k, h, h2 => by simp [nkD] at h
  | .dcn _, b, k, h, h2 => by simp [nkD] at h
  | .obj _, b, k, h, h2 => by simp [nkD] at h
theorem nks_inj : ∀ (a b : List D) (ks : List NestedKey), nksD a = some ks → nksD b = some ks → a = b
  | [], [], ks, _, _ => rfl
  | [], d :: ds, ks, h, h2 => by
    simp only [nksD] at h; cases h
    obtain ⟨k, ks, _, _, e⟩ := nksD_cons h2
    cases e
  | d :: ds, [], ks, h, h2 => by
    simp only [nksD] at h2; cases h2
    obtain ⟨k, ks, _, _, e⟩ := nksD_cons h
    cases e
  | d :: ds, e :: es, r, h, h2 => by
    obtain ⟨k, ks, a1, a2, rfl⟩ := nksD_cons h
    obtain ⟨k', ks', b1, b2, e'⟩ := nksD_cons h2
    cases e'
    rw [nk_inj d e k a1 b1, nks_inj ds es ks a2 b2]
end
mutual
theorem toks_key : ∀ (x y : NestedKey) (l m : List (Int ⊕ List Nat)), PySem.W.alike x.data y.data = true → PySem.W.keyToks x.data ++ l = PySem.W.keyToks y.data ++ m → x = y ∧ l = m
  | .none, y, l, m, h, e => by
    cases y with
    | none => exact ⟨rfl, e⟩
    | _ => simp [NestedKey.data, PySem.W.alike] at h
  | .num i, y, l, m, h, e => by
    cases y with
    | num j => simp only [NestedKey.data, PySem.W.keyToks, List.cons_append, List.nil_append, List.cons.injEq, Sum.inl.injEq] at e; exact ⟨by rw [e.1], e.2⟩
    | _ => simp [NestedKey.data, PySem.W.alike] at h
  | .text i, y, l, m, h, e => by
    cases y with
    | text j => simp only [NestedKey.data, PySem.W.keyToks, List.cons_append, List.nil_append, List.cons.injEq, Sum.inr.injEq] at e; exact ⟨by rw [PySem.W.str_of_cps e.1], e.2⟩
    | _ => simp [NestedKey.data, PySem.W.alike] at h
  | .tup xs, y, l, m, h, e => by
    cases y with
    | tup ys =>
      simp only [NestedKey.data, PySem.W.keyToks] at e
      simp only [NestedKey.data, PySem.W.alike] at h
      obtain ⟨h1, h2⟩ := toks_keys xs ys l m h e
      exact ⟨by rw [h1], h2⟩
    | _ => simp [NestedKey.data, PySem.W.alike] at h
theorem toks_keys : ∀ (xs ys : List NestedKey) (l m : List (Int ⊕ List Nat)), PySem.W.alikeAll (NestedKey.datas xs) (NestedKey.datas ys) = true → PySem.W.keyToksAll (NestedKey.datas xs) ++ l = PySem.W.keyToksAll (NestedKey.datas ys) ++ m → xs = ys ∧ l = m
  | [], [], l, m, _, e => by
    simp only [NestedKey.datas, PySem.W.keyToksAll, List.cons_append, List.nil_append, List.cons.injEq, true_and] at e
    exact ⟨rfl, e⟩
  | [], y :: ys, l, m, _, e => by
    simp only [NestedKey.datas, PySem.W.keyToksAll, List.cons_append, List.nil_append, List.cons.injEq] at e
    exact absurd e.1 (by simp)
  | x :: xs, [], l, m, _, e => by
    simp only [NestedKey.datas, PySem.W.keyToksAll, List.cons_append, List.nil_append, List.cons.injEq] at e
    exact absurd e.1 (by simp)
  | x :: xs, y :: ys, l, m, h, e => by
    simp only [NestedKey.datas, PySem.W.keyToksAll, List.cons_append, List.append_assoc, List.cons.injEq, true_and] at e
    simp only [NestedKey.datas, PySem.W.alikeAll, Bool.and_eq_true] at h
    obtain ⟨h1, h2⟩ := toks_key x y _ _ h.1 e
    obtain ⟨h3, h4⟩ := toks_keys xs ys l m h.2 h2
    exact ⟨by rw [h1, h3], h4⟩
end
structure SN (ds : List D) (ks : List NestedKey) : Prop where
  eq : ds.map nkD = ks.map some
  tup : ∀ k ∈ ks, DX.isTupK k = true ∧ k.depth ≤ 8
  al : ∀ k ∈ ks, ∀ k' ∈ ks, PySem.W.alike k.data k'.data = true
  few : ks.length < 64
theorem SN.back {ds : List D} {ks : List NestedKey} (h : SN ds ks) {d : D} (hd : d ∈ ds) : ∃ k ∈ ks, nkD d = some k := by
  have : nkD d ∈ ks.map some := by rw [← h.eq]; exact List.mem_map_of_mem hd
  obtain ⟨k, hk, e⟩ := List.mem_map.mp this
  exact ⟨k, hk, e.symm⟩
theorem SN.inj {ds : List D} {ks : List NestedKey} (h : SN ds ks) : InjT ds := fun a ha b hb h1 h2 => by
  obtain ⟨k, hk, ek⟩ := h.back ha
  obtain ⟨k', hk', ek'⟩ := h.back hb
  have e := ltD_toks h1 h2
  rw [nk_py a k ek, nk_py b k' ek'] at e
  obtain ⟨e2, _⟩ := toks_key k k' [] [] (h.al k hk k' hk') (by rw [List.append_nil, List.append_nil]; exact e)
  subst e2
  exact nk_inj a b k ek ek'
/-- what is laid: values with their data and their keys -/
theorem SN.zip {K : PySem.W.Frag} {W : Wd G} {P : PM} {H : Hp} (s : Sub P H) : ∀ {ds : List D} {xs : List V}, Reps K W P ds xs → (∀ d ∈ ds, ∃ k, nkD d = some k ∧ DX.isTupK k = true ∧ k.depth ≤ 8) → ∃ zs : List (V × NestedKey × D), xs = zs.map (·.1) ∧ ds = zs.map (·.2.2) ∧ ∀ z ∈ zs, nkD z.2.2 = some z.2.1 ∧ Rep K W P z.2.2 z.1 ∧ Dp K H z.1 z.2.1.data ∧ DX.isTupK z.2.1 = true ∧ z.2.1.depth ≤ 8
  | [], xs, h, _ => by simp only [Reps] at h; subst h; exact ⟨[], rfl, rfl, fun z hz => by cases hz⟩
  | d :: ds, xs, h, hk => by
    simp only [Reps] at h
    obtain ⟨v, r, rfl, h1, h2⟩ := h
    obtain ⟨zs, e1, e2, e3⟩ := SN.zip s h2 fun d hd => hk d (List.mem_cons_of_mem _ hd)
    obtain ⟨k, ek, t1, t2⟩ := hk d List.mem_cons_self
    exact ⟨(v, k, d) :: zs, by rw [List.map_cons, ← e1], by rw [List.map_cons, ← e2], fun z hz => by
      rcases List.mem_cons.mp hz with rfl | hz
      · exact ⟨ek, h1, by rw [← nk_py d k ek]; exact Rep.dp s d v (nk_pl d k ek) h1, t1, t2⟩
      · exact e3 z hz⟩
end DL
/-! DX9: sorted(x), x a list, a tuple, or what else can be gone through. -/
namespace DX
open PySem PySem.Spec PyProof.Rows L2
end DX
namespace DL
open PySem PySem.Spec PyProof.Rows L2
variable {G : Type}
theorem CallR.or {X : Cx} {f : Value} {r r' : List V → Hp → VK → Prop} (h : CallR X f r) (h' : CallR X f r') : CallR X f (fun vs H Q => r vs H Q ∨ r' vs H Q) := fun pins s σ H vs us Q I rv q => q.elim (h pins s σ H vs us Q I rv) (h' pins s σ H vs us Q I rv)
/-! ### sorted(list), sorted(tuple), sorted(dict of texts) -/
def isTp : D → Bool
  | .tup _ => true
  | _ => false
end DL
namespace DL
open PySem PySem.Spec PyProof.Rows L2
variable {G : Type}
/-! ### powers of greater numbers -/
def okPow2 (i j : Int) : Bool := decide (0 ≤ j ∧ j ≤ 1000 ∧ i.natAbs < 2 ^ 2000)
abbrev opPow2 : D → D → Option S := opI2 okPow2 fun a b => .int (a ^ b.toNat)
def CPow2 (i j : Int) : Prop := 0 ≤ j ∧ j ≤ 1000 ∧ i.natAbs < 2 ^ 2000
theorem op_pow2 {X : Cx} : OpR X (binaryOp .Pow) (rI CPow2 fun i j => .int (i ^ j.toNat)) := opI fun i j _ _ _ _ _ hc q => pow_int hc.1 (by
  have hb : Builtin.Int.intBits i ≤ 2000 := intBits_le hc.2.2
  have h1 : (Builtin.Int.intBits i : Int) * j ≤ 2000 * j := Int.mul_le_mul_of_nonneg_right (by omega) hc.1
  have := hc.2.1
  omega) q
section
variable {C : CF} {Fam : Wd G → Prop} {a b c : Expr} {fa fb fc : M G S} {pos p pos2 p2 : Pos}
theorem d_pow2 (ha : DE C Fam a fa) (hb : DE C Fam b fb) : DE C Fam (.BinOp a .Pow b pos) (mOp opPow2 fa fb) :=
  d_op (fun j => op_pow2) (fun _ _ => b_i2 (k := fun a b => .int (a ^ b.toNat)) (fun a b P => by simp) fun a b H Q h q => ⟨a, b, rfl, rfl, (show CPow2 a b from (of_decide_eq_true h : 0 ≤ b ∧ b ≤ 1000 ∧ a.natAbs < 2 ^ 2000)), q⟩) ha hb
end
/-! ### x is True -/
end DL
namespace DL
open PySem PySem.Spec PyProof.Rows L2
/-! ### defs that are called by names too -/
def DefOkK (K : PySem.W.Frag) (mg : Str → Option Value) (x : Str) (st : Stmt) (ps : List Str) (kl : List (List Str × List Nat)) : Prop := ∃ f fd, Fun K x x st f fd ∧ mg x = some (.ref f) ∧ Binds K fd ps [] ∧ ∀ q ∈ kl, KwB K fd ps q.1 q.2
section
variable {G : Type} {Fam : Wd G → Prop} {P : Program} {w : World} {K : PySem.W.Frag} {mg : Str → Option Value} {base : Heap} {k n : Nat} {x : Str} {stm : Stmt} {N ps : List Str} {b : M G Fl} {kl : List (List Str × List Nat)}
theorem DefOkK.one (h : DefOkK K mg x stm ps kl) : DefOk K mg x stm ps := let ⟨f, fd, F, hm, hb, _⟩ := h; ⟨f, fd, F, hm, hb⟩
theorem fdk_to (h : DefOkK K mg x stm ps kl) (Sc : FnScope N ps (defScope stm)) (hn : ps.length = n) (hbody : ∀ f, DSs (fcx P w K mg base N k x stm f Sc.nd) Fam (defBody stm) b) : FDK P w K mg base Fam (k + 1) x n (mFn n N.length b) kl :=
  let ⟨f, fd, F, hm, hb, hk⟩ := h
  ⟨f, fd, ps, fnG_to F Sc hn (hbody f), hm, F.kp, hb, hn, hk⟩
end
end DL
namespace DL
open PySem PySem.Spec PyProof.Rows L2
/-! ### the head, with tuples of the module too -/
def flatV : D → V
  | .bl b => .bl b
  | .int i => .int i
  | .str x => .str x
  | _ => .non
def isFlat : D → Bool
  | .bl _ => true
  | .int _ => true
  | .str _ => true
  | .non => true
  | _ => false
def tupN (K : PySem.W.Frag) (x : Str) (ds : List D) : Bool := ds.all isFlat && match K.lookup (He.ga K x) with
  | some ⟨.type c, none, .seq its _, _⟩ => decide (c = "tuple") && (decide (its.size ≤ sizeLine) && He.relAll (ds.map flatV) its.toList)
  | _ => false
def obsE (fa : List He.Fa) (fn : List He.DefD) (tb : List (Str × List D)) (K : PySem.W.Frag) : He.AlD × Bool := (He.obsD fa fn K, tb.all fun q => tupN K q.1 q.2)
def SaysE (fa : List He.Fa) (fn : List He.DefD) (tb : List (Str × List D)) (K : PySem.W.Frag) : Prop := obsE fa fn tb K = (He.valD fn, true)
theorem SaysE.d {fa : List He.Fa} {fn : List He.DefD} {tb : List (Str × List D)} {K : PySem.W.Frag} (c : SaysE fa fn tb K) : He.SaysD fa fn K := congrArg Prod.fst c
theorem SaysE.tup {fa : List He.Fa} {fn : List He.DefD} {tb : List (Str × List D)} {K : PySem.W.Frag} (c : SaysE fa fn tb K) (i : Nat) {x : Str} {ds : List D} (h : tb[i]? = some (x, ds) := by rfl) : tupN K x ds = true :=
  List.all_eq_true.mp (congrArg Prod.snd c : (tb.all fun q => tupN K q.1 q.2) = true) (x, ds) (List.mem_of_getElem? h)
end DL
namespace DL
open PySem PySem.Spec PyProof.Rows L2
variable {G : Type}
/-! ### t * n -/
theorem mul_one_t (l : Addr) (vs : Array Value) (n : Nat) (dd : Option Addr) (sl : Array (Option Value)) (u : Tok) :
    Meets (Builtin.«tuple.__mul__» ⟨[.ref l, .int 1 u], []⟩) (fun _ R s => s.heap.get? l = some ⟨.type "tuple", dd, .seq vs n, sl⟩ ∧ R (.ok (.ret (.ref l))) s) :=
  .of_wp fun prog w A R s h => by
    obtain ⟨hp, g, d, tk, os⟩ := s
    obtain ⟨hl, h⟩ := h
    have f1 := AutoSeq1.idx_int
    have c1 : (vs.isEmpty || (1 : Int) == 1) = true := by simp
    wp_walk using wpAny_loadPart' hl
    exact ⟨_, rfl, h⟩
def rRepF (K : PySem.W.Frag) : R2 := fun x y H Q => ∃ l k xs, x = .ref l ∧ y = .int k ∧ SqT K H l xs ∧ xs ≠ [] ∧ 1 ≤ k ∧ k ≤ 1000 ∧ xs.length ≤ 1000 ∧ (k = 1 → Q (.ref l) H) ∧ (k ≠ 1 → DY.NewT H (List.replicate k.toNat xs).flatten Q)
theorem rep_vals {xs : List V} {its : List Value} (r : Vals xs its) : ∀ m : Nat, Vals (List.replicate m xs).flatten (List.replicate m its).flatten
  | 0 => .nil
  | m + 1 => by
    rw [List.replicate_succ, List.replicate_succ, List.flatten_cons, List.flatten_cons]
    exact r.append (rep_vals r m)
theorem flat_len {α : Type} (l : List α) : ∀ m : Nat, (List.replicate m l).flatten.length = m * l.length
  | 0 => by simp
  | m + 1 => by rw [List.replicate_succ, List.flatten_cons, List.length_append, flat_len l m, Nat.succ_mul]; omega
theorem op_repF {X : Cx} : OpR X (binaryOp .Mult) (rRepF X.K) := by
  intro pins s σ H x y v u Q I rx ry h
  obtain ⟨l, k, xs, rfl, rfl, hT, hne, h1, h2, hz, q1, q2⟩ := h
  cases rx
  obtain ⟨t, rfl⟩ := ry
  obtain ⟨its, r, ⟨⟨cls, dd, data, sl⟩, ho, rfl, n, rfl⟩, hs⟩ := I.tuple hT
  have le : its.length = xs.length := r.length.symm
  have pos : 0 < xs.length := List.length_pos_iff.mpr hne
  have nonE : its.toArray.isEmpty = false := by
    cases its with
    | nil => simp at le; omega
    | cons a b => rfl
  have szA : its.toArray.size = xs.length := by rw [List.size_toArray, le]
  have main : wpAny (model X.prog X.w) X.A (call (.builtin "tuple.__mul__") [.ref l, .int k t]) (EP X pins σ Q) X.xe s := by
    by_cases e : k = 1
    · subst e
      exact call_meets F.slot_tuple_mul ⟨_, ho, rfl⟩ F.entry_tuple_mul (F.args_tuple_mul_2 _ _) (mul_one_t l its.toArray n dd sl t) ⟨ho, .ref l, H, I, rfl, q1 rfl⟩
    · have lim : k.toNat * xs.length ≤ 1000 * 1000 := Nat.mul_le_mul (by omega) hz
      have prod : (((its.toArray.size : Nat) : Int) * k) ≤ 1000000 := by
        rw [szA]
        have : ((xs.length : Nat) : Int) * k ≤ 1000 * k := Int.mul_le_mul_of_nonneg_right (by omega) (by omega)
        omega
      have many : Builtin.Tuple.tupleTooMany (((its.toArray.size : Nat) : Int) * k) = false := by
        unfold Builtin.Tuple.tupleTooMany
        rw [sizeLine_eq]; exact decide_eq_false (by omega)
      have flen : (List.replicate k.toNat its).flatten.length ≤ sizeLine := by rw [flat_len, le, sizeLine_eq]; omega
      refine call_meets F.slot_tuple_mul ⟨_, ho, rfl⟩ F.entry_tuple_mul (F.args_tuple_mul_2 _ _) (tuple_mulW l its.toArray n dd sl k t (by rw [decide_eq_false (by omega), decide_eq_false (by omega)]; rfl) (by rw [nonE, Bool.false_or]; exact beq_eq_false_iff_ne.mpr e)
        (by rw [nonE, Bool.or_false]; exact decide_eq_false (by omega)) (by omega) many (by rw [size_rep, List.size_toArray]; exact flen)) ⟨ho, ?_⟩
      rw [size_rep]
      exact DY.laidT (h' := s.heap) (tk := s.toks) I (rep_vals r _) (by rw [flat_len, sizeLine_eq]; omega) (q2 e)
  exact wpAny_binaryOp_repeat_ref (T := "tuple") (U := "int") (by decide) ⟨_, ho, rfl⟩ (fun s' => typeIs_int s' k t) noFill_tuple_mul F.fills_int_mul F.slot_int_rmul repeat_tuple F.slot_int_index.lookup
    (call_meets F.slot_int_rmul (typeIs_int s k t) F.entry_int_rmul (F.args_int_rmul_2 _ _) (int_rmul_tuple k t l its.toArray n dd sl) ⟨ho, rfl, ⟨_, ho, rfl⟩, main⟩)
def opMul2 : D → D → Option S
  | .tup a, .int k => if a ≠ [] ∧ 1 ≤ k ∧ k ≤ 1000 ∧ a.length ≤ 1000 then some (.sh (.tup (List.replicate k.toNat a).flatten)) else none
  | a, b => opMul a b
theorem b_mul2 {K : PySem.W.Frag} {W : Wd G} : B2 K W (fun x y H Q => (rI CMulW (fun i j => .int (i * j)) x y H Q ∨ rRep x y H Q) ∨ rRepF K x y H Q) opMul2 := by
  intro P₀ H₀ P O σ st τ ts H g x y dx dy z Q R rx ry h q
  have old : opMul dx dy = some z → (rI CMulW (fun i j => .int (i * j)) x y H Q ∨ rRep x y H Q) ∨ rRepF K x y H Q := fun h => .inl (b_mul P₀ H₀ P O σ st τ ts H g x y dx dy z Q R rx ry h q)
  cases dx with
  | tup a =>
    cases dy with
    | int k =>
      simp only [opMul2] at h
      split at h
      · rename_i hc
        cases h
        have rx0 := rx
        obtain ⟨ad, xs, rfl, sq, hz, rs⟩ := rd1_tup.mp rx
        rw [rd1_int] at ry
        have hl := rs.length
        refine .inr ⟨ad, k, xs, rfl, ry, R.sub.sqT sq.sq, fun e => hc.1 (List.eq_nil_of_length_eq_zero (by rw [← hl, e]; rfl)), hc.2.1, hc.2.2.1, by omega, fun e => ?_, fun e => fun p ob hp hd => ?_⟩
        · subst e
          refine q _ _ (R.ofSh ?_)
          have : (List.replicate (1 : Int).toNat a).flatten = a := by simp
          rw [this]; exact rx0
        · have lim : k.toNat * a.length ≤ 1000 * 1000 := Nat.mul_le_mul (by omega) hc.2.2.2
          exact q _ _ (R.newTup hp hd (rs.rep _) (by rw [flat_len, sizeLine_eq]; omega))
      · cases h
    | _ => exact old h
  | _ => exact old (by cases dy <;> exact h)
section
variable {C : CF} {Fam : Wd G → Prop} {a b c : Expr} {fa fb fc : M G S} {pos p pos2 p2 : Pos}
theorem OpR.or {X : Cx} {f : Value → Value → Sem Value} {r r' : R2} (h : OpR X f r) (h' : OpR X f r') : OpR X f (fun x y H Q => r x y H Q ∨ r' x y H Q) := fun pins s σ H x y v u Q I rx ry q => q.elim (h pins s σ H x y v u Q I rx ry) (h' pins s σ H x y v u Q I rx ry)
theorem d_mul2 (ha : DE C Fam a fa) (hb : DE C Fam b fb) : DE C Fam (.BinOp a .Mult b pos) (mOp opMul2 fa fb) :=
  d_op (r := fun x y H Q => (rI CMulW (fun i j => .int (i * j)) x y H Q ∨ rRep x y H Q) ∨ rRepF C.K x y H Q) (fun j => by rw [← C.hK j]; exact OpR.or (op_mulW.or op_rep) op_repF) (fun _ _ => b_mul2) ha hb
end
end DL
namespace DL
open PySem PySem.Spec PyProof.Rows L2
/-! ### d.get(k, x) -/
end DL
namespace DL
open PySem PySem.Spec PyProof.Rows L2
variable {G : Type}
/-! ### [e for a in xs for b in ys] -/
section
variable {K : PySem.W.Frag} {W : Wd G} {P₀ P : PM} {H₀ H : Hp} {O : Addr → Option Tag} {σ : L2.St} {st : Sl} {τ : List V} {ts : List S} {g : G} {d : D}
theorem TOk.at : ∀ {ρ : List V} {rs : List S} {v : V} {s : S}, ρ.length = rs.length → TOk K W P O H σ (ρ ++ (v :: τ)) (rs ++ (s :: ts)) → SOk K W P O H σ (.tmp τ.length) v s
  | [], [], _, _, _, h => h.1
  | _ :: _, _ :: _, _, _, hl, h => TOk.at (by simpa using hl) h.2
  | [], _ :: _, _, _, hl, _ => by simp at hl
  | _ :: _, [], _, _, hl, _ => by simp at hl
end
end DL
namespace DL
open PySem PySem.Spec PyProof.Rows L2
end DL
namespace DX
open PySem PySem.Spec PyProof.Rows L2
/-! ### sorted(d.items()) -/
end DX
namespace DL
open PySem PySem.Spec PyProof.Rows L2
/-! ### sorted(d.items()) -/
end DL
namespace DL
open PySem PySem.Spec PyProof.Rows L2
/-! ### t.index(x), a tuple of texts -/
end DL
namespace DL
open PySem PySem.Spec PyProof.Rows L2
variable {G : Type}
/-! ### a dict at d may be locked or not: all reads stay -/
structure Alike (d : Addr) (ks : List (Key × V)) (P P' : PM) : Prop where
  off : ∀ a, a ≠ d → P' a = P a
  old : ∃ o, P d = some o ∧ IsDK o ks
  new : ∃ o, P' d = some o ∧ IsDK o ks
  ob : P'.ob = P.ob
theorem Alike.le {d : Addr} {ks : List (Key × V)} {P P' : PM} (h : Alike d ks P P') : LeP P P' := fun a o e => by
  by_cases z : a = d
  · subst z
    obtain ⟨o1, e1, i1⟩ := h.old
    obtain ⟨o2, e2, i2⟩ := h.new
    rw [e] at e1; cases e1
    exact ⟨o2, e2, .inr (.inl ⟨ks, i1, i2⟩)⟩
  · exact ⟨o, by rw [h.off a z]; exact e, .inl rfl⟩
section
variable {K : PySem.W.Frag} {W : Wd G} {d : Addr} {ks : List (Key × V)} {P P' : PM}
theorem Alike.lst {a : Addr} {xs : List V} (h : Alike d ks P P') (e : P a = some (.lst xs)) : P' a = some (.lst xs) := by
  by_cases z : a = d
  · subst z
    obtain ⟨o, e2, i⟩ := h.old
    rw [e] at e2; cases e2
    rcases i with i | ⟨_, i⟩ <;> cases i
  · rw [h.off a z]; exact e
theorem Alike.tup {a : Addr} {xs : List V} (h : Alike d ks P P') (e : DY.TupP K P a xs) : DY.TupP K P' a xs := by
  rcases e with ⟨o, e, hd⟩ | e
  · refine .inl ⟨o, ?_, hd⟩
    by_cases z : a = d
    · subst z
      obtain ⟨o', e2, i⟩ := h.old
      rw [e] at e2; cases e2
      rcases i with i | ⟨_, i⟩ <;> cases i
    · rw [h.off a z]; exact e
  · exact .inr e
theorem IsDK.one {o : HO} {a b : List (Key × V)} (h : IsDK o a) (h' : IsDK o b) : a = b := by
  rcases h with rfl | ⟨x, rfl⟩
  · rcases h' with h' | ⟨_, h'⟩
    · cases h'; rfl
    · cases h'
  · rcases h' with h' | ⟨_, h'⟩
    · cases h'
    · cases h'; rfl
theorem Alike.dct {a : Addr} {o : HO} {kk : List (D × V)} (h : Alike d ks P P') (e : P a = some o) (i : DObj o kk) : ∃ o', P' a = some o' ∧ DObj o' kk := by
  by_cases z : a = d
  · subst z
    obtain ⟨o1, e1, i1⟩ := h.old
    obtain ⟨o2, e2, i2⟩ := h.new
    rw [e] at e1; cases e1
    obtain ⟨kvs, hk, rfl⟩ := i
    have := hk.one i1
    subst this
    exact ⟨o2, e2, _, i2, rfl⟩
  · exact ⟨o, by rw [h.off a z]; exact e, i⟩
theorem Alike.dcn {w : World} {a : Addr} {o : HO} {xs : List (NestedKey × Addr × Value)} (h : Alike d ks P P') (e : P a = some o) (i : IsDN w a o xs) : P' a = some o := by
  by_cases z : a = d
  · subst z
    obtain ⟨o1, e1, i1⟩ := h.old
    rw [e] at e1; cases e1
    rcases i with rfl | ⟨_, rfl⟩
    · rcases i1 with i1 | ⟨_, i1⟩ <;> cases i1
    · rcases i1 with i1 | ⟨_, i1⟩ <;> cases i1
  · rw [h.off a z]; exact e
mutual
theorem Alike.rep (h : Alike d ks P P') : ∀ (x : D) (v : V), Rep K W P x v → Rep K W P' x v
  | .non, v, r => r
  | .bl _, v, r => r
  | .int _, v, r => r
  | .str _, v, r => r
  | .tup xs, v, r => by
    simp only [Rep] at r ⊢
    obtain ⟨a, ys, e, t, z, r⟩ := r
    exact ⟨a, ys, e, h.tup t, z, Alike.reps h xs ys r⟩
  | .lst xs, v, r => by
    simp only [Rep] at r ⊢
    obtain ⟨a, ys, e, t, z, r⟩ := r
    exact ⟨a, ys, e, h.lst t, z, Alike.reps h xs ys r⟩
  | .dct kvs, v, r => by
    simp only [Rep] at r ⊢
    obtain ⟨a, o, kk, e, t, i, r⟩ := r
    obtain ⟨o', t', i'⟩ := h.dct t i
    exact ⟨a, o', kk, e, t', i', Alike.repk h kvs kk r⟩
  | .dcn kvs, v, r => by
    simp only [Rep] at r ⊢
    obtain ⟨a, o, xs, e, t, i, r⟩ := r
    exact ⟨a, o, xs, e, h.dcn t i, i, Alike.repn h kvs xs r⟩
  | .obj n, v, r => by simp only [Rep] at r ⊢; rw [h.ob]; exact r
theorem Alike.reps (h : Alike d ks P P') : ∀ (xs : List D) (vs : List V), Reps K W P xs vs → Reps K W P' xs vs
  | [], vs, r => r
  | x :: xs, vs, r => by
    simp only [Reps] at r ⊢
    obtain ⟨v, r', e, h1, h2⟩ := r
    exact ⟨v, r', e, Alike.rep h x v h1, Alike.reps h xs r' h2⟩
theorem Alike.repk (h : Alike d ks P P') : ∀ (xs : List (D × D)) (vs : List (D × V)), Repk K W P xs vs → Repk K W P' xs vs
  | [], vs, r => r
  | (k, x) :: xs, vs, r => by
    simp only [Repk] at r ⊢
    obtain ⟨v, r', e, h1, h2⟩ := r
    exact ⟨v, r', e, Alike.rep h x v h1, Alike.repk h xs r' h2⟩
theorem Alike.repn (h : Alike d ks P P') : ∀ (ds : List (D × D)) (xs : List (NestedKey × Addr × Value)), Repn K W P ds xs → Repn K W P' ds xs
  | [], xs, r => r
  | (k, x) :: ds, xs, r => by
    simp only [Repn] at r ⊢
    obtain ⟨nk, b, u, v, r', e, h1, h2, h3, h4, h5, h6⟩ := r
    exact ⟨nk, b, u, v, r', e, h1, h2, Alike.rep h k _ h3, h4, Alike.rep h x v h5, Alike.repn h ds r' h6⟩
end
theorem Alike.own {a : Addr} {o : HO} {x : D} (h : Alike d ks P P') (r : Own K W P a o x) : Own K W P' a o x := by
  cases x with
  | lst xs => obtain ⟨ys, e, z, r⟩ := r; exact ⟨ys, e, z, h.reps _ _ r⟩
  | dct kvs => obtain ⟨kk, i, r⟩ := r; exact ⟨kk, i, h.repk _ _ r⟩
  | dcn kvs => obtain ⟨xs, i, r⟩ := r; exact ⟨xs, i, h.repn _ _ r⟩
  | _ => exact r.elim
theorem Alike.sok {O : Addr → Option Tag} {H H' : Hp} {σ : L2.St} {t : Tag} {v : V} {s : S} (h : Alike d ks P P') (hO : O d = none) (hH : ∀ a, a ≠ d → H' a = H a) (r : SOk K W P O H σ t v s) : SOk K W P' O H' σ t v s := by
  cases s with
  | sh x => exact h.rep _ _ r
  | ow x =>
    obtain ⟨a, o, e, eO, eH, q⟩ := r
    have hne : a ≠ d := fun z => by rw [z, hO] at eO; cases eO
    exact ⟨a, o, e, eO, by rw [hH a hne]; exact eH, h.own q⟩
  | «at» i => exact r
  | any => trivial
theorem Alike.tok {O : Addr → Option Tag} {H H' : Hp} {σ : L2.St} (h : Alike d ks P P') (hO : O d = none) (hH : ∀ a, a ≠ d → H' a = H a) : ∀ {τ : List V} {ts : List S}, TOk K W P O H σ τ ts → TOk K W P' O H' σ τ ts
  | [], [], _ => trivial
  | v :: τ, s :: ts, r => ⟨h.sok hO hH r.1, Alike.tok h hO hH r.2⟩
  | [], _ :: _, r => r.elim
  | _ :: _, [], r => r.elim
end
end DL
namespace DL
open PySem PySem.Spec PyProof.Rows L2
/-! ### locking a shared dict, and opening it again -/
end DL
namespace DL
open PySem PySem.Spec PyProof.Rows L2
/-! ### a comprehension over what a name holds: also a dict -/
end DL
namespace DL
open PySem PySem.Spec PyProof.Rows L2
end DL
namespace DL
open PySem PySem.Spec PyProof.Rows L2
end DL
namespace DL
open PySem PySem.Spec PyProof.Rows L2
variable {G : Type}
/-! ### for p in x: x a name that holds a dict -/
theorem PS.or {X : Cx} {s : Stmt} {t t' : TS} (h : PS X s t) (h' : PS X s t') : PS X s (fun D σ H => t D σ H ∨ t' D σ H) := ⟨fun pins s σ H D I q => q.elim (h.run pins s σ H D I) (h'.run pins s σ H D I)⟩
end DL
/-! dict(zip(a, b)) of two tuples. -/
namespace DX
open PySem PySem.Spec PyProof.Rows L2
end DX
namespace DX
open PySem PySem.Spec PyProof.Rows L2
end DX
namespace DL
open PySem PySem.Spec PyProof.Rows L2
/-! ### dict(zip(a, b)), two tuples -/
end DL
namespace DL
open PySem PySem.Spec PyProof.Rows L2
/-! ### x, d[k] = a, b -/
end DL
namespace DX
open PySem PySem.Spec PyProof.Rows L2 DL
/-! ### dicts whose keys are nested tuples -/
/-- the tuple at b is the key k -/
def NKy (K : PySem.W.Frag) (H : Hp) (b : Addr) (k : NestedKey) : Prop := Dp K H (.ref b) k.data ∧ k.depth ≤ 8
/-- a dict at a with the entries xs; the empty dict is one -/
def NDt (w : World) (H : Hp) (a : Addr) (xs : List (NestedKey × Addr × Value)) : Prop := (∃ o, H a = some o ∧ IsDN w a o xs) ∨ (xs = [] ∧ Rd H a (.dK []))
/-- one that may be written -/
def NDm (w : World) (H : Hp) (a : Addr) (xs : List (NestedKey × Addr × Value)) : Prop := H a = some (nDictO w a xs) ∨ (xs = [] ∧ H a = some (.dK []))
theorem NDm.any {w : World} {H : Hp} {a : Addr} {xs : List (NestedKey × Addr × Value)} (h : NDm w H a xs) : NDt w H a xs := by
  rcases h with h | ⟨h, h2⟩
  · exact .inl ⟨_, h, .inl rfl⟩
  · exact .inr ⟨h, .inl h2⟩
section
variable {X : Cx} {pins : List (Addr × Obj)} {σ : L2.St} {H : Hp} {s : Shared} {a b : Addr} {k : NestedKey} {xs : List (NestedKey × Addr × Value)} {A : Around} {E : Value → Shared → Prop}
theorem NKy.is (I : Inv X pins σ H s) (h : NKy X.K H b k) : (nestedKind X.prog X.w).is s.heap k b := by
  obtain ⟨as, r⟩ := Dp.reads I _ _ (.ref b) h.1 rfl
  exact ⟨nested_of _ _ _ r, h.2⟩
theorem NDt.of (I : Inv X pins σ H s) (h : NDt X.w H a xs) (hk : ∀ x ∈ xs, NKy X.K H x.2.1 x.1) : (a == sysModules) = false ∧ xs.length ≤ sizeLine ∧ s.heap.DictOfH (nestedKind X.prog X.w) a xs := by
  rcases h with ⟨o, e, h⟩ | ⟨rfl, e⟩
  · have x := I.hok a o e
    have y : ObjOk X.prog X.w H s.heap a (nDictO X.w a xs) := by
      rcases h with rfl | ⟨ob, rfl⟩
      · exact x
      · exact x.2
    obtain ⟨⟨h1, h2, h3, o, es, ep, h4, h5, h6, h7⟩, _, _⟩ := y
    exact ⟨h1, h2, o, es, ep, h4, h5, h6, h7, fun x hx => (hk x hx).is I, h3⟩
  · obtain ⟨z, h1, vs, rel, dd⟩ := dk_rd I.hok e
    cases rel
    obtain ⟨o, es, ep, h4, h5, h6, h7, h8, _⟩ := dd
    refine ⟨h1, Nat.zero_le _, o, es, ep, h4, h5, h6, ?_, (fun x hx => nomatch hx), List.nodup_nil⟩
    cases h8' : es.toList with
    | nil => rfl
    | cons e es' => rw [h8'] at h8; cases h8
end
end DX
namespace DL
open PySem PySem.Spec PyProof.Rows L2
variable {G : Type}
/-! ### dicts whose keys are tuples -/
section
variable {K : PySem.W.Frag} {W : Wd G} {P : PM} {H : Hp} {kvs : List (D × D)} {xs : List (NestedKey × Addr × Value)}
theorem Repn.len : ∀ {kvs : List (D × D)} {xs : List (NestedKey × Addr × Value)}, Repn K W P kvs xs → kvs.length = xs.length
  | [], xs, h => by simp only [Repn] at h; subst h; rfl
  | (k, d) :: ds, xs, h => by
    simp only [Repn] at h
    obtain ⟨nk, b, u, v, r, rfl, h1, h2, h3, h4, h5, h6⟩ := h
    rw [List.length_cons, List.length_cons, Repn.len h6]
theorem Repn.app : ∀ {kvs : List (D × D)} {xs : List (NestedKey × Addr × Value)} {k d : D} {nk : NestedKey} {b : Addr} {u : Value} {v : V}, Repn K W P kvs xs → nkD k = some nk → nk.depth ≤ 8 → Rep K W P k (.ref b) → RelV v u → Rep K W P d v → Repn K W P (kvs ++ [(k, d)]) (xs ++ [(nk, b, u)])
  | [], xs, k, d, nk, b, u, v, h, a1, a2, a3, a4, a5 => by
    simp only [Repn] at h; subst h
    show Repn K W P [(k, d)] [(nk, b, u)]
    simp only [Repn]
    exact ⟨nk, b, u, v, [], rfl, a1, a2, a3, a4, a5, rfl⟩
  | (k', d') :: ds, xs, k, d, nk, b, u, v, h, a1, a2, a3, a4, a5 => by
    simp only [Repn] at h
    obtain ⟨nk', b', u', v', r, rfl, h1, h2, h3, h4, h5, h6⟩ := h
    show Repn K W P ((k', d') :: (ds ++ [(k, d)])) ((nk', b', u') :: (r ++ [(nk, b, u)]))
    simp only [Repn]
    exact ⟨nk', b', u', v', _, rfl, h1, h2, h3, h4, h5, Repn.app h6 a1 a2 a3 a4 a5⟩
end
/-! ### d[k] = v -/
end DL
namespace DL
open PySem
theorem pwDF {pw : WP} {W : Wd Dk} (h : DF pw W) : W.pw = pw.pw := by
  obtain ⟨T, a0, a1, a2, h01, h02, h12, hT, la, hla, rfl⟩ := h; rfl
end DL
namespace DL
open PySem PySem.Spec PyProof.Rows L2
/-! ### {k: v for p in src if t} -/
end DL
namespace DX
open PySem PySem.Spec PyProof.Rows L2
end DX
namespace DL
open PySem PySem.Spec PyProof.Rows L2
/-! ### d.update(e), d being the dict of slot i -/
/-! ### x.insert(i, e), x being the list of slot i -/
end DL
namespace DX
open PySem PySem.Spec PyProof.Rows L2
open AutoSeq1 (wpAny_loadPart')
/-! ### enumerate(tuple) -/
end DX
namespace DL
open PySem PySem.Spec PyProof.Rows L2
/-! ### enumerate of a tuple -/
end DL
namespace DL
open PySem PySem.Spec PyProof.Rows L2
/-! ### d.get(k) -/
end DL
namespace DL
open PySem PySem.Spec PyProof.Rows L2
/-! ### an own list is gone through by a comprehension, and is own again after it -/
end DL
namespace DL
open PySem PySem.Spec PyProof.Rows L2
/-! ### dicts with nested keys are gone through -/
end DL
namespace L2
open PySem PySem.Spec PyProof.Rows DL
end L2
namespace DL
open PySem PySem.Spec PyProof.Rows L2
end DL
/-! DX18: dicts with nested keys: a comprehension that makes one, a display with one key, going through a value. -/
namespace DX
open PySem PySem.Spec PyProof.Rows L2 DL
/-! ### going through a value -/
/-! ### {k: v for target in iter if ..}, keys nested (the steps are those of the house's dc_core, the store another) -/
end DX
/-! DL55: a list is lent to a def. -/
namespace DL
open PySem PySem.Spec PyProof.Rows L2
mutual
/-- no thing of the world within -/
def nob : D → Bool
  | .tup ds => nobs ds
  | .lst ds => nobs ds
  | .dct kvs => nobk kvs
  | .dcn kvs => nobk kvs
  | .obj _ => false
  | .non => true
  | .bl _ => true
  | .int _ => true
  | .str _ => true
def nobs : List D → Bool
  | [] => true
  | d :: ds => nob d && nobs ds
def nobk : List (D × D) → Bool
  | [] => true
  | (k, d) :: ds => nob k && nob d && nobk ds
end
section
variable {G : Type} {K : PySem.W.Frag} {W W' : Wd G} {P : PM}
mutual
theorem Rep.wld (hp : W.pw = W'.pw) : ∀ (d : D) (v : V), nob d = true → Rep K W P d v → Rep K W' P d v
  | .non, _, _, h => by simpa only [Rep] using h
  | .bl _, _, _, h => by simpa only [Rep] using h
  | .int _, _, _, h => by simpa only [Rep] using h
  | .str _, _, _, h => by simpa only [Rep] using h
  | .obj _, _, n, h => by simp [nob] at n
  | .tup ds, v, n, h => by
    simp only [Rep] at h ⊢
    obtain ⟨a, xs, e, q, z, r⟩ := h
    exact ⟨a, xs, e, q, z, Reps.wld hp ds xs (by simpa [nob] using n) r⟩
  | .lst ds, v, n, h => by
    simp only [Rep] at h ⊢
    obtain ⟨a, xs, e, q, z, r⟩ := h
    exact ⟨a, xs, e, q, z, Reps.wld hp ds xs (by simpa [nob] using n) r⟩
  | .dct kvs, v, n, h => by
    simp only [Rep] at h ⊢
    obtain ⟨a, o, ks, e, q, z, r⟩ := h
    exact ⟨a, o, ks, e, q, z, Repk.wld hp kvs ks (by simpa [nob] using n) r⟩
  | .dcn kvs, v, n, h => by
    simp only [Rep] at h ⊢
    obtain ⟨a, o, xs, e, q, z, r⟩ := h
    exact ⟨a, o, xs, e, q, hp ▸ z, Repn.wld hp kvs xs (by simpa [nob] using n) r⟩
theorem Reps.wld (hp : W.pw = W'.pw) : ∀ (ds : List D) (vs : List V), nobs ds = true → Reps K W P ds vs → Reps K W' P ds vs
  | [], _, _, h => by simpa only [Reps] using h
  | d :: ds, vs, n, h => by
    simp only [Reps] at h ⊢
    simp only [nobs, Bool.and_eq_true] at n
    obtain ⟨v, r, e, h1, h2⟩ := h
    exact ⟨v, r, e, Rep.wld hp d v n.1 h1, Reps.wld hp ds r n.2 h2⟩
theorem Repk.wld (hp : W.pw = W'.pw) : ∀ (ds : List (D × D)) (vs : List (D × V)), nobk ds = true → Repk K W P ds vs → Repk K W' P ds vs
  | [], _, _, h => by simpa only [Repk] using h
  | (k, d) :: ds, vs, n, h => by
    simp only [Repk] at h ⊢
    simp only [nobk, Bool.and_eq_true] at n
    obtain ⟨v, r, e, h1, h2⟩ := h
    exact ⟨v, r, e, Rep.wld hp d v n.1.2 h1, Repk.wld hp ds r n.2 h2⟩
theorem Repn.wld (hp : W.pw = W'.pw) : ∀ (ds : List (D × D)) (xs : List (NestedKey × Addr × Value)), nobk ds = true → Repn K W P ds xs → Repn K W' P ds xs
  | [], _, _, h => by simpa only [Repn] using h
  | (k, d) :: ds, xs, n, h => by
    simp only [Repn] at h ⊢
    simp only [nobk, Bool.and_eq_true] at n
    obtain ⟨nk, b, u, v, r, e, h1, h2, h3, h4, h5, h6⟩ := h
    exact ⟨nk, b, u, v, r, e, h1, h2, Rep.wld hp k _ n.1.1 h3, h4, Rep.wld hp d v n.1.2 h5, Repn.wld hp ds r n.2 h6⟩
end
end
/-! ### arguments, the last one a list that is lent -/
/-! ### the list that is lent, in the def -/
end DL
/-! DL56: list(range(n)); x[k] = v, x being an own list. -/
namespace DL
open PySem PySem.Spec PyProof.Rows L2
variable {G : Type}
theorem Reps.set {K : PySem.W.Frag} {W : Wd G} {P : PM} {d : D} {v : V} (rv : Rep K W P d v) : ∀ {ds : List D} {vs : List V} (j : Nat), Reps K W P ds vs → Reps K W P (ds.set j d) (vs.set j v)
  | [], vs, j, h => by simp only [Reps] at h; subst h; simp [Reps]
  | e :: ds, vs, 0, h => by
    simp only [Reps] at h
    obtain ⟨u, r, rfl, h1, h2⟩ := h
    simp only [List.set_cons_zero, Reps]
    exact ⟨v, r, rfl, rv, h2⟩
  | e :: ds, vs, j + 1, h => by
    simp only [Reps] at h
    obtain ⟨u, r, rfl, h1, h2⟩ := h
    simp only [List.set_cons_succ, Reps]
    exact ⟨u, _, rfl, h1, Reps.set rv j h2⟩
end DL
/-! DL57: xs.index(k), a list of ints. -/
namespace DL
open PySem PySem.Spec PyProof.Rows L2
end DL
/-! DL58: f-strings, str(i), int(text), x += n, raise that is never reached. -/
namespace DL
open PySem PySem.Spec PyProof.Rows L2
/-! ### raise -/
/-! ### str(i), int(text) -/
end DL
namespace DL
open PySem PySem.Spec PyProof.Rows L2
variable {G : Type}
/-! ### a dict at d may be locked or not: all reads stay -/
structure AlikeN (w : World) (d : Addr) (ys : List (NestedKey × Addr × Value)) (P P' : PM) : Prop where
  off : ∀ a, a ≠ d → P' a = P a
  old : ∃ o, P d = some o ∧ IsDN w d o ys
  new : ∃ o, P' d = some o ∧ IsDN w d o ys
  ob : P'.ob = P.ob
theorem AlikeN.le {w : World} {d : Addr} {ys : List (NestedKey × Addr × Value)} {P P' : PM} (h : AlikeN w d ys P P') : LeP P P' := fun a o e => by
  by_cases z : a = d
  · subst z
    obtain ⟨o1, e1, i1⟩ := h.old
    obtain ⟨o2, e2, i2⟩ := h.new
    rw [e] at e1; cases e1
    exact ⟨o2, e2, .inr (.inr ⟨w, ys, i1, i2⟩)⟩
  · exact ⟨o, by rw [h.off a z]; exact e, .inl rfl⟩
section
variable {K : PySem.W.Frag} {W : Wd G} {d : Addr} {ys : List (NestedKey × Addr × Value)} {w : World} {P P' : PM}
theorem AlikeN.lst {a : Addr} {xs : List V} (h : AlikeN w d ys P P') (e : P a = some (.lst xs)) : P' a = some (.lst xs) := by
  by_cases z : a = d
  · subst z
    obtain ⟨o, e2, i⟩ := h.old
    rw [e] at e2; cases e2
    rcases i with i | ⟨_, i⟩ <;> cases i
  · rw [h.off a z]; exact e
theorem AlikeN.tup {a : Addr} {xs : List V} (h : AlikeN w d ys P P') (e : DY.TupP K P a xs) : DY.TupP K P' a xs := by
  rcases e with ⟨o, e, hd⟩ | e
  · refine .inl ⟨o, ?_, hd⟩
    by_cases z : a = d
    · subst z
      obtain ⟨o', e2, i⟩ := h.old
      rw [e] at e2; cases e2
      rcases i with i | ⟨_, i⟩ <;> cases i
    · rw [h.off a z]; exact e
  · exact .inr e
theorem nd_eq {w w' : World} {d : Addr} {xs ys : List (NestedKey × Addr × Value)} {o o2 : HO} (h1 : IsDN w d o ys) (h2 : IsDN w d o2 ys) (i : IsDN w' d o xs) : IsDN w' d o2 xs := by
  have e : nDictO w' d xs = nDictO w d ys := by
    rcases i with rfl | ⟨x, rfl⟩
    · rcases h1 with h1 | ⟨y, h1⟩
      · exact h1
      · cases h1
    · rcases h1 with h1 | ⟨y, h1⟩
      · cases h1
      · simp only [HO.frz.injEq] at h1; exact h1.2
  unfold IsDN at h2 ⊢
  rw [e]; exact h2
theorem AlikeN.dct {a : Addr} {o : HO} {kk : List (D × V)} (h : AlikeN w d ys P P') (e : P a = some o) (i : DObj o kk) : ∃ o', P' a = some o' ∧ DObj o' kk := by
  by_cases z : a = d
  · subst z
    obtain ⟨o1, e1, i1⟩ := h.old
    rw [e] at e1; cases e1
    obtain ⟨kvs, hk, rfl⟩ := i
    rcases i1 with rfl | ⟨_, rfl⟩ <;> rcases hk with hk | ⟨_, hk⟩ <;> cases hk
  · exact ⟨o, by rw [h.off a z]; exact e, i⟩
theorem AlikeN.dcn {w' : World} {a : Addr} {o : HO} {xs : List (NestedKey × Addr × Value)} (h : AlikeN w d ys P P') (e : P a = some o) (i : IsDN w' a o xs) : ∃ o', P' a = some o' ∧ IsDN w' a o' xs := by
  by_cases z : a = d
  · subst z
    obtain ⟨o1, e1, i1⟩ := h.old
    obtain ⟨o2, e2, i2⟩ := h.new
    rw [e] at e1; cases e1
    exact ⟨o2, e2, nd_eq i1 i2 i⟩
  · exact ⟨o, by rw [h.off a z]; exact e, i⟩
mutual
theorem AlikeN.rep (h : AlikeN w d ys P P') : ∀ (x : D) (v : V), Rep K W P x v → Rep K W P' x v
  | .non, v, r => r
  | .bl _, v, r => r
  | .int _, v, r => r
  | .str _, v, r => r
  | .tup xs, v, r => by
    simp only [Rep] at r ⊢
    obtain ⟨a, ys, e, t, z, r⟩ := r
    exact ⟨a, ys, e, h.tup t, z, AlikeN.reps h xs ys r⟩
  | .lst xs, v, r => by
    simp only [Rep] at r ⊢
    obtain ⟨a, ys, e, t, z, r⟩ := r
    exact ⟨a, ys, e, h.lst t, z, AlikeN.reps h xs ys r⟩
  | .dct kvs, v, r => by
    simp only [Rep] at r ⊢
    obtain ⟨a, o, kk, e, t, i, r⟩ := r
    obtain ⟨o', t', i'⟩ := h.dct t i
    exact ⟨a, o', kk, e, t', i', AlikeN.repk h kvs kk r⟩
  | .dcn kvs, v, r => by
    simp only [Rep] at r ⊢
    obtain ⟨a, o, xs, e, t, i, r⟩ := r
    obtain ⟨o', t', i'⟩ := h.dcn t i
    exact ⟨a, o', xs, e, t', i', AlikeN.repn h kvs xs r⟩
  | .obj n, v, r => by simp only [Rep] at r ⊢; rw [h.ob]; exact r
theorem AlikeN.reps (h : AlikeN w d ys P P') : ∀ (xs : List D) (vs : List V), Reps K W P xs vs → Reps K W P' xs vs
  | [], vs, r => r
  | x :: xs, vs, r => by
    simp only [Reps] at r ⊢
    obtain ⟨v, r', e, h1, h2⟩ := r
    exact ⟨v, r', e, AlikeN.rep h x v h1, AlikeN.reps h xs r' h2⟩
theorem AlikeN.repk (h : AlikeN w d ys P P') : ∀ (xs : List (D × D)) (vs : List (D × V)), Repk K W P xs vs → Repk K W P' xs vs
  | [], vs, r => r
  | (k, x) :: xs, vs, r => by
    simp only [Repk] at r ⊢
    obtain ⟨v, r', e, h1, h2⟩ := r
    exact ⟨v, r', e, AlikeN.rep h x v h1, AlikeN.repk h xs r' h2⟩
theorem AlikeN.repn (h : AlikeN w d ys P P') : ∀ (ds : List (D × D)) (xs : List (NestedKey × Addr × Value)), Repn K W P ds xs → Repn K W P' ds xs
  | [], xs, r => r
  | (k, x) :: ds, xs, r => by
    simp only [Repn] at r ⊢
    obtain ⟨nk, b, u, v, r', e, h1, h2, h3, h4, h5, h6⟩ := r
    exact ⟨nk, b, u, v, r', e, h1, h2, AlikeN.rep h k _ h3, h4, AlikeN.rep h x v h5, AlikeN.repn h ds r' h6⟩
end
theorem AlikeN.own {a : Addr} {o : HO} {x : D} (h : AlikeN w d ys P P') (r : Own K W P a o x) : Own K W P' a o x := by
  cases x with
  | lst xs => obtain ⟨ys, e, z, r⟩ := r; exact ⟨ys, e, z, h.reps _ _ r⟩
  | dct kvs => obtain ⟨kk, i, r⟩ := r; exact ⟨kk, i, h.repk _ _ r⟩
  | dcn kvs => obtain ⟨xs, i, r⟩ := r; exact ⟨xs, i, h.repn _ _ r⟩
  | _ => exact r.elim
theorem AlikeN.sok {O : Addr → Option Tag} {H H' : Hp} {σ : L2.St} {t : Tag} {v : V} {s : S} (h : AlikeN w d ys P P') (hO : O d = none) (hH : ∀ a, a ≠ d → H' a = H a) (r : SOk K W P O H σ t v s) : SOk K W P' O H' σ t v s := by
  cases s with
  | sh x => exact h.rep _ _ r
  | ow x =>
    obtain ⟨a, o, e, eO, eH, q⟩ := r
    have hne : a ≠ d := fun z => by rw [z, hO] at eO; cases eO
    exact ⟨a, o, e, eO, by rw [hH a hne]; exact eH, h.own q⟩
  | «at» i => exact r
  | any => trivial
theorem AlikeN.tok {O : Addr → Option Tag} {H H' : Hp} {σ : L2.St} (h : AlikeN w d ys P P') (hO : O d = none) (hH : ∀ a, a ≠ d → H' a = H a) : ∀ {τ : List V} {ts : List S}, TOk K W P O H σ τ ts → TOk K W P' O H' σ τ ts
  | [], [], _ => trivial
  | v :: τ, s :: ts, r => ⟨h.sok hO hH r.1, AlikeN.tok h hO hH r.2⟩
  | [], _ :: _, r => r.elim
  | _ :: _, [], r => r.elim
end
end DL
namespace DL
open PySem PySem.Spec PyProof.Rows L2
/-! ### going through a dict with nested keys -/
end DL
namespace DX
open PySem PySem.Spec PyProof.Rows L2 DL
/-! ### k in d, d[k], d.get(k, x): d's keys are nested tuples -/
end DX
namespace DL
open PySem PySem.Spec PyProof.Rows L2
end DL
namespace DL
open PySem PySem.Spec PyProof.Rows L2
variable {G : Type}
/-! ### behind a statement a slot's own thing is shared -/
def shrSlot (i : Nat) (st : Sl) : Sl := match st[i]? with
  | some (some (.ow d)) => st.set i (some (.sh d))
  | _ => st
theorem Rel.shrSlot {K : PySem.W.Frag} {W : Wd G} {P₀ : PM} {H₀ H : Hp} {σ : L2.St} {st : Sl} {τ : List V} {ts : List S} {g : G} (i : Nat) (R : Rel K W P₀ H₀ σ st τ ts H g) : Rel K W P₀ H₀ σ (shrSlot i st) τ ts H g := by
  unfold DL.shrSlot
  split
  · rename_i d e
    obtain ⟨P, O, R⟩ := R
    obtain ⟨v, e1, _, _⟩ := R.slot e
    have R1 : RelB K W P₀ H₀ P O σ st (v :: τ) (.at i :: ts) H g := R.pushS e1
    obtain ⟨P', O', R2⟩ := R1.takeV (d := d) (st' := st.set i (some (.sh d))) (by show (match st[i]? with | some (some (.sh d)) => some (d, st) | some (some (.ow d)) => some (d, st.set i (some (.sh d))) | _ => none) = _; rw [e])
    exact ⟨P', O', R2.pop⟩
  · exact R
def mAfter (i : Nat) (f : M G Fl) : M G Fl := fun st g => bnd (f st g) fun fl st g => match fl with
  | .nx => some (.nx, shrSlot i st, g)
  | fl => some (fl, st, g)
theorem ev_after {K : PySem.W.Frag} {W : Wd G} {t : TS} {f : M G Fl} (i : Nat) (h : EvS K W t f) : EvS K W t (mAfter i f) := by
  intro P₀ H₀ σ st τ ts H g fl st' g' E n R e q
  obtain ⟨fl1, st1, g1, e1, e⟩ := bnd_eq e
  cases fl1 with
  | nx =>
    simp only [Option.some.injEq, Prod.mk.injEq] at e; obtain ⟨rfl, rfl, rfl⟩ := e
    exact h _ _ _ _ _ _ _ _ _ _ _ _ n R e1 fun σ' H' R' => q σ' H' (R'.shrSlot i)
  | bk => simp only [Option.some.injEq, Prod.mk.injEq] at e; obtain ⟨rfl, rfl, rfl⟩ := e; exact h _ _ _ _ _ _ _ _ _ _ _ _ n R e1 q
  | ct => simp only [Option.some.injEq, Prod.mk.injEq] at e; obtain ⟨rfl, rfl, rfl⟩ := e; exact h _ _ _ _ _ _ _ _ _ _ _ _ n R e1 q
  | rt d => simp only [Option.some.injEq, Prod.mk.injEq] at e; obtain ⟨rfl, rfl, rfl⟩ := e; exact h _ _ _ _ _ _ _ _ _ _ _ _ n R e1 q
theorem DS.after {C : CF} {Fam : Wd G → Prop} {s : Stmt} {f : M G Fl} (i : Nat) (h : DS C Fam s f) : DS C Fam s (mAfter i f) :=
  let ⟨t, p, e⟩ := h.ex
  ⟨t, p, fun W hW => ev_after i (e W hW)⟩
end DL
/-! DL61: `{} in xs` for lists of dicts, `xs != []` for lists of any things. -/
namespace DL
open PySem PySem.Spec PyProof.Rows L2
end DL
/-! DL62: {k: v for p in e if t} and [x for p in e if t], e a dict with nested keys; {k: v} with a nested key. -/
namespace DL
open PySem PySem.Spec PyProof.Rows L2
end DL
namespace DX
open PySem PySem.Spec PyProof.Rows L2
/-! ### set tables of 512 slots -/
def MX (m : Nat) : Prop := MaskOk m ∨ m = 511
/-- the round, once gone through -/
def orb : Nat → Nat → List Nat
  | 0, _ => []
  | n + 1, x => x :: orb n ((x * 5 + 1) % 512)
theorem orb_at : ∀ (n x k : Nat), k < n → (orb n x)[k]? = some (lcgI 511 x k)
  | 0, _, _, h => absurd h (Nat.not_lt_zero _)
  | n + 1, x, 0, _ => rfl
  | n + 1, x, k + 1, h => by
    show (orb n ((x * 5 + 1) % 512))[k]? = _
    rw [orb_at n _ k (by omega)]
    have : ∀ k, lcgI 511 ((x * 5 + 1) % 512) k = lcgI 511 x (k + 1) := fun k => by
      induction k with
      | zero => rfl
      | succ k ih => show (lcgI 511 _ k * 5 + 1) % 512 = (lcgI 511 x (k + 1) * 5 + 1) % 512; rw [ih]
    rw [this]
theorem orb_all : ((List.range 512).all fun j => (orb 512 0).contains j) = true := by decide +kernel
theorem orb_round : lcgN 511 512 = 0 := by decide +kernel
theorem lcgI_zero : ∀ k, lcgI 511 0 k = lcgN 511 k
  | 0 => rfl
  | k + 1 => by show (lcgI 511 0 k * 5 + 1) % 512 = (lcgN 511 k * 5 + 1) % 512; rw [lcgI_zero k]
theorem orb_has {j : Nat} (h : j < 512) : ∃ b, b < 512 ∧ lcgN 511 b = j := by
  have h1 := List.all_eq_true.mp orb_all j (List.mem_range.mpr h)
  rw [List.contains_iff_mem] at h1
  obtain ⟨b, hb, e⟩ := List.mem_iff_getElem.mp h1
  have hl : ∀ n x, (orb n x).length = n := fun n => by
    induction n with
    | zero => intro x; rfl
    | succ n ih => intro x; simp [orb, ih]
  rw [hl] at hb
  refine ⟨b, hb, ?_⟩
  have := orb_at 512 0 b hb
  rw [List.getElem?_eq_getElem (by rw [hl]; exact hb), lcgI_zero] at this
  rw [← Option.some.inj this, e]
theorem orb_turn : ∀ k, lcgN 511 (512 + k) = lcgN 511 k
  | 0 => orb_round
  | k + 1 => by
    show (lcgN 511 (512 + k) * 5 + 1) % 512 = (lcgN 511 k * 5 + 1) % 512
    rw [orb_turn k]
theorem lcgI_reach {i j : Nat} (hi : i ≤ 511) (hj : j ≤ 511) : ∃ k, k ≤ 511 ∧ lcgI 511 i k = j := by
  obtain ⟨a, ha, rfl⟩ := orb_has (Nat.lt_succ_of_le hi)
  obtain ⟨b, hb, rfl⟩ := orb_has (Nat.lt_succ_of_le hj)
  by_cases c : a ≤ b
  · exact ⟨b - a, by omega, by rw [lcgN_add, Nat.add_sub_cancel' c]⟩
  · exact ⟨512 + b - a, by omega, by rw [lcgN_add, show a + (512 + b - a) = 512 + b by omega, orb_turn]⟩
theorem runs_meet {m : Nat} (hm : MX m) (h : Int) {j : Nat} (hj : j ≤ m) : ∃ n, n ≤ m + 12 ∧ runI m (SetTable.bits h) n = j := by
  rcases hm with hm | rfl
  · exact run_meets hm h hj
  · obtain ⟨k, hk, e⟩ := lcgI_reach (runI_le 511 (SetTable.bits h) 12) hj
    exact ⟨12 + k, by omega, by rw [runI_tail (bits_lt h)]; exact e⟩
theorem way_in (m : Nat) (h : Int) (k : Nat) : way m h k ≤ m := by
  have hi : SetTable.bits h % (m + 1) ≤ m := Nat.le_of_lt_succ (Nat.mod_lt _ (Nat.succ_pos _))
  have r := runEnd_bd hi
  have q := nth_in (m := m) k (runAt m (SetTable.bits h % (m + 1)) (SetTable.bits h)) (by
    show SetTable.bits h % (m + 1) + (SetTable.runEnd m (SetTable.bits h % (m + 1)) - SetTable.bits h % (m + 1)) ≤ m
    omega)
  exact Nat.le_trans (Nat.le_add_right _ _) q
/-- a table whose slots all are found again, of up to 512 slots -/
structure TabM (t : SetTable) (hs : List Int) : Prop where
  ris : Ris t.place.toList
  dm : t.dummies = #[]
  sz : t.place.size = hs.length
  mok : MX t.mask
  bd : ∀ x ∈ t.place.toList, x ≤ t.mask
  reach : ∀ (i : Nat) (h : Int) (j : Nat), hs[i]? = some h → t.place.toList[i]? = some j → ∃ k, way t.mask h k = j ∧ ∀ k', k' < k → way t.mask h k' ∈ t.place.toList
/-! ### laid anew -/
theorem seat {m : Nat} (hm : MX m) {done : List Int} {owner : Array (Option Nat)} (W : Own m done owner) (hl : done.length ≤ m) (h : Int) :
    ∃ j, SetTable.layClean.free m owner (SetTable.turns m) (SetTable.bits h % (m + 1)) (SetTable.bits h) = some j ∧ Own m (done ++ [h]) (owner.setIfInBounds j (some done.length)) := by
  obtain ⟨ps, hps, hin⟩ := W.ps
  obtain ⟨j0, h0, hn0⟩ := st_missing ps (m + 1) (by omega)
  have free0 : oAt owner j0 = none := Classical.byContradiction fun z => hn0 (hin j0 (Nat.le_of_lt_succ h0) z)
  obtain ⟨n, hn, e⟩ := runs_meet hm h (Nat.le_of_lt_succ h0)
  have at0 : way m h (off m (SetTable.bits h % (m + 1)) (SetTable.bits h) n) = j0 := by
    unfold way
    rw [nth_off, itL_run]
    exact e
  obtain ⟨K, k1, k2, k3⟩ := st_least (p := fun k => oAt owner (way m h k) = none) _ (by show oAt owner (way m h _) = none; rw [at0]; exact free0)
  have found := free_spec m owner (SetTable.turns m) n (SetTable.bits h % (m + 1)) (SetTable.bits h) K (by unfold SetTable.turns; omega) k1 (fun k hk => Option.isNone_eq_false_iff.mpr (Option.isSome_iff_ne_none.mpr (k3 k hk))) (Option.isNone_iff_eq_none.mpr k2)
  have hjm : way m h K ≤ m := way_in m h K
  have self := oAt_set_self (some done.length) (owner := owner) (j := way m h K) (by rw [W.sz]; exact Nat.lt_succ_of_le hjm)
  refine ⟨way m h K, found, ?_⟩
  have keep : ∀ {i : Nat}, oAt owner i ≠ none → oAt (owner.setIfInBounds (way m h K) (some done.length)) i ≠ none := fun {i} hi => by
    by_cases c : i = way m h K
    · rw [c, self]; exact fun z => nomatch z
    · rwa [oAt_set_ne _ c]
  refine ⟨by rw [Array.size_setIfInBounds]; exact W.sz, fun j k hj e => ?_, fun k hk => ?_, ⟨way m h K :: ps, by simp [hps], fun j hj e => ?_⟩⟩
  · by_cases c : j = way m h K
    · rw [c, self] at e
      exact ⟨h, K, by rw [← Option.some.inj e]; simp, c.symm, fun k' hk' => keep (k3 k' hk')⟩
    · rw [oAt_set_ne _ c] at e
      obtain ⟨h', K', a1, a2, a3⟩ := W.at_ j k hj e
      exact ⟨h', K', by rw [List.getElem?_append_left (List.getElem?_eq_some_iff.mp a1).1]; exact a1, a2, fun k' hk' => keep (a3 k' hk')⟩
  · rw [List.length_append, List.length_singleton] at hk
    by_cases c : k < done.length
    · obtain ⟨j, hj, e⟩ := W.all k c
      exact ⟨j, hj, by rw [oAt_set_ne _ fun z => by rw [z, k2] at e; cases e]; exact e⟩
    · exact ⟨way m h K, hjm, by rw [self]; exact congrArg some (by omega)⟩
  · by_cases c : j = way m h K
    · exact c ▸ List.mem_cons_self
    · rw [oAt_set_ne _ c] at e
      exact List.mem_cons_of_mem _ (hin j hj e)
theorem seats {m : Nat} (hm : MX m) : ∀ (rest done : List Int) (owner : Array (Option Nat)), Own m done owner → done.length + rest.length ≤ m →
    ∃ owner', rest.foldl (stepF m) (some (owner, done.length)) = some (owner', (done ++ rest).length) ∧ Own m (done ++ rest) owner'
  | [], done, owner, W, _ => ⟨owner, by simp, by rwa [List.append_nil]⟩
  | h :: rest, done, owner, W, hl => by
    rw [List.length_cons] at hl
    obtain ⟨j, e, W'⟩ := seat hm W (by omega) h
    have hl' : (done ++ [h]).length = done.length + 1 := by simp
    obtain ⟨owner', f, W2⟩ := seats hm rest (done ++ [h]) _ W' (by omega)
    rw [List.append_assoc, List.singleton_append] at f W2
    rw [hl'] at f
    exact ⟨owner', by rw [List.foldl_cons, stepF_some e]; exact f, W2⟩
theorem laid {m : Nat} (hm : MX m) {hs : Array Int} (hn : hs.size ≤ m) : ∃ owner, SetTable.layClean m hs = some owner ∧ Own m hs.toList owner := by
  obtain ⟨owner, f, W⟩ := seats hm hs.toList [] _ (Own.init m) (by rw [Array.length_toList]; simpa using hn)
  rw [List.nil_append] at W
  refine ⟨owner, ?_, W⟩
  rw [layClean_eq, show (some (Array.replicate (m + 1) (none : Option Nat), 0)) = some (Array.replicate (m + 1) none, ([] : List Int).length) from rfl, f]
  rfl
end DX
namespace DXM
open PySem PySem.Spec PyProof.Rows L2 DX
/-- the things of a set as it keeps them -/
structure NM (w : World) (h : Heap) (S : Addr) (L : List (Value × NestedKey)) (es : Array (Int × Value)) (ep : Nat) (t : SetTable) : Prop where
  ob : ∃ o, h.get? S = some o ∧ o.ExactSet ∧ o.data = .set es ep t
  eq : es.toList = kept w L
  tab : TabM t (hsOf w L)
  nd : (L.map (·.2)).Nodup
  el : ∀ p ∈ L, NK h p.1 p.2
  led : w.params.followText "set-order" = true ∨ t.led = true
  room : L.length * 5 < t.mask * 3
  few : L.length < 306
section
variable {P : Program} {w : World} {A : Around} {E : Value → Shared → Prop} {s : Shared} {S : Addr} {L : List (Value × NestedKey)} {es : Array (Int × Value)} {ep : Nat} {t : SetTable} {x : Value} {k : NestedKey}
theorem fits_of {h : Heap} (e : es.toList = kept w L) (T : TabM t (hsOf w L)) (hm : L.length ≤ t.mask) : t.fits es.size = true := by
  have a := T.sz
  rw [hs_len] at a
  have b := size_of e
  simp only [SetTable.fits, SetTable.fill, T.dm, Bool.and_eq_true, beq_iff_eq, decide_eq_true_eq]
  constructor
  · omega
  · show t.place.size + 0 ≤ t.mask; omega
theorem NM.fits (R : NM w s.heap S L es ep t) : t.fits es.size = true := fits_of (h := s.heap) R.eq R.tab (by have := R.room; omega)
end
end DXM
namespace DL
open PySem PySem.Spec PyProof.Rows L2
variable {G : Type}
/-! sorted(set(xs)), xs tuples of which up to 304 are unlike -/
structure SM (ds : List D) (ks : List NestedKey) : Prop where
  eq : ds.map nkD = ks.map some
  tup : ∀ k ∈ ks, DX.isTupK k = true ∧ k.depth ≤ 8
  al : ∀ k ∈ ks, ∀ k' ∈ ks, PySem.W.alike k.data k'.data = true
  few : (ssD ds).length < 305
theorem SM.back {ds : List D} {ks : List NestedKey} (h : SM ds ks) {d : D} (hd : d ∈ ds) : ∃ k ∈ ks, nkD d = some k := by
  have : nkD d ∈ ks.map some := by rw [← h.eq]; exact List.mem_map_of_mem hd
  obtain ⟨k, hk, e⟩ := List.mem_map.mp this
  exact ⟨k, hk, e.symm⟩
theorem SM.inj {ds : List D} {ks : List NestedKey} (h : SM ds ks) : InjT ds := fun a ha b hb h1 h2 => by
  obtain ⟨k, hk, ek⟩ := h.back ha
  obtain ⟨k', hk', ek'⟩ := h.back hb
  have e := ltD_toks h1 h2
  rw [nk_py a k ek, nk_py b k' ek'] at e
  obtain ⟨e2, _⟩ := toks_key k k' [] [] (h.al k hk k' hk') (by rw [List.append_nil, List.append_nil]; exact e)
  subst e2
  exact nk_inj a b k ek ek'
/-- what is laid: values with their data and their keys -/
theorem SM.zip {K : PySem.W.Frag} {W : Wd G} {P : PM} {H : Hp} (s : Sub P H) : ∀ {ds : List D} {xs : List V}, Reps K W P ds xs → (∀ d ∈ ds, ∃ k, nkD d = some k ∧ DX.isTupK k = true ∧ k.depth ≤ 8) → ∃ zs : List (V × NestedKey × D), xs = zs.map (·.1) ∧ ds = zs.map (·.2.2) ∧ ∀ z ∈ zs, nkD z.2.2 = some z.2.1 ∧ Rep K W P z.2.2 z.1 ∧ Dp K H z.1 z.2.1.data ∧ DX.isTupK z.2.1 = true ∧ z.2.1.depth ≤ 8
  | [], xs, h, _ => by simp only [Reps] at h; subst h; exact ⟨[], rfl, rfl, fun z hz => by cases hz⟩
  | d :: ds, xs, h, hk => by
    simp only [Reps] at h
    obtain ⟨v, r, rfl, h1, h2⟩ := h
    obtain ⟨zs, e1, e2, e3⟩ := SM.zip s h2 fun d hd => hk d (List.mem_cons_of_mem _ hd)
    obtain ⟨k, ek, t1, t2⟩ := hk d List.mem_cons_self
    exact ⟨(v, k, d) :: zs, by rw [List.map_cons, ← e1], by rw [List.map_cons, ← e2], fun z hz => by
      rcases List.mem_cons.mp hz with rfl | hz
      · exact ⟨ek, h1, by rw [← nk_py d k ek]; exact Rep.dp s d v (nk_pl d k ek) h1, t1, t2⟩
      · exact e3 z hz⟩
end DL
namespace DL
open PySem PySem.Spec PyProof.Rows L2
/-! {k: v, ..}: a dict's display, keys ints and texts -/
end DL
/-! DX17: a lambda of one parameter, made and called. -/
namespace DL
open PySem PySem.Spec PyProof.Rows L2
end DL
namespace DL
open PySem PySem.Spec PyProof.Rows L2
/-! max(e, key=lambda a: d[a]): e a new list of keys, d the dict of slot i, its values ints -/
end DL
/-! bodies of defs, the code value named (for lambdas) -/
namespace DL
open PySem PySem.Spec PyProof.Rows L2
end DL
namespace DL
open PySem PySem.Spec PyProof.Rows L2
end DL
namespace DL
open PySem PySem.Spec PyProof.Rows L2
end DL
namespace DL
open PySem
end DL
/-! DL59: the law's call where one def makes lambdas: its table is tracked too. -/
namespace DL
open PySem PySem.Spec PyProof.Rows L2
end DL
/-! DL60: a def that makes a lambda; the head's facts of it. -/
namespace DL
open PySem PySem.Spec PyProof.Rows L2
end DL
/-! DL63: enumerate of a list or of a tuple. -/
namespace DL
open PySem PySem.Spec PyProof.Rows L2
end DL
/-! DL64: what the head looks at where one def makes lambdas. -/
namespace DL
open PySem PySem.Spec PyProof.Rows L2
end DL
/-! DL65: t.index(x), a tuple of data. -/
namespace DL
open PySem PySem.Spec PyProof.Rows L2
end DL
/-! DL66: x, y, z = a, b, c. -/
namespace DL
open PySem PySem.Spec PyProof.Rows L2
end DL
/-! DL67: l[::-1], l a list. -/
namespace DL
open PySem PySem.Spec PyProof.Rows L2
end DL
/-! DL68: len of a dict with tuple keys. -/
namespace DL
open PySem PySem.Spec PyProof.Rows L2
end DL
/-! DL69: dict of a tuple of pairs whose first ones are tuples. -/
namespace DL
open PySem PySem.Spec PyProof.Rows L2
end DL
/-! DX19: zip of a tuple and a list. -/
/-! DL70: zip of a tuple and a list. -/
namespace DL
open PySem PySem.Spec PyProof.Rows L2
end DL
/-! DX21: an exception class of the program over others of the program over ValueError; its __init__ says super().__init__(x), then self.f = x. -/
namespace DXE
open PySem PySem.Spec PySem.Calls PyProof.Rows L2 PySem.W
/-- what the written part says of such a class and its __init__ -/
structure ExcI (P : Program) (K : Frag) (C fI : Addr) (params : Arguments) (body : List Stmt) (scope : Scope) (fd : FuncData) : Prop where
  oex : OexC K C
  iC : findIn K (.ref C) "__init__" = some (some (.ref fI))
  tI : typeIn K (.ref fI) = some (.type "function")
  fn : ∃ oc od osl name qual dV kV doc pm an cda ct cc, K.lookup fI = some ⟨oc, od, .func fd, osl⟩ ∧ fd = ksFn name qual params body scope dV kV doc pm an (.ref cda) ct cc ∧ codeIn K (.ref cda) qual = true ∧
    (∃ ccl cdd vs ccs file tf, K.lookup cda = some ⟨ccl, cdd, .fields vs, ccs⟩ ∧ vs[2]? = some (.str file tf) ∧ ((P.main.file : Str) == file) = true) ∧ ∃ cl cld csl, K.lookup cc = some ⟨cl, cld, .cell (some (.ref C)), csl⟩
  ve : subIn K (.ref C) (.type "ValueError") = some true
  sub : mroIn K C (.ref C) = some true
  up : ks_superIn K C C "__init__" = some (some (.builtin "ValueError.__init__"))
  st : nsIn K cStatics "thirdparty.any" = some none
  top : (P.main.scope.names.lookup ("super" : Str)).isSome = false
section
variable {P : Program} {w : World} {K : Frag} {A : Around} {E : Value → Shared → Prop} {h : Heap} {g : Array GenState} {d : Drawn} {t : Nat} {os : OsState}
variable {nm q : Str} {C N : Addr} {bs bm : List Value} {hdct : Bool} {sn : List Str} {sub : List Value} {ab : Bool} {col : Option Bool} {dd : Option Addr} {k0 k1 k2 k3 k5 : Option Value}
/-- ValueError.__init__ bound to e, called -/
theorem call_bwVE {u e t0 : Addr} {rest : List Value} {Q : Value → Shared → Prop}
    (hC : h.get? C = some (excClassObj nm q C N bs bm hdct sn sub ab col dd k0 k1 k2 k3 k5 "ValueError.__new__")) (he : h.get? e = some (HandSPX.excO C t0)) (hu : h.get? u = some (kxs_mw "ValueError.__init__" e)) (hrest : rest.length ≤ sizeLine)
    (hq : ∀ h' t1, (∀ b o, b ≠ e → h.get? b = some o → h'.get? b = some o) → h'.get? e = some (HandSPX.excO C t1) → Q .none ⟨h', g, d, t, os⟩) :
    wpAny (model P w) A (call (.ref u) rest) Q E ⟨h, g, d, t, os⟩ := by
  refine wpAny_call (codeAny_of_tree ?_)
  show wpAny _ A.in1 (callAny (.ref u) ⟨rest, []⟩) _ _ _
  simp only [callAny]
  refine wpAny_bind (wpAny_load hu ?_)
  simp only [kxs_mw, show (Value.type "method-wrapper" == Value.type "method" || Value.type "method-wrapper" == Value.type "builtin_function_or_method" || Value.type "method-wrapper" == Value.type "method-wrapper") = true by decide, if_true]
  refine KFB.if_so (by decide) ?_
  refine wpAny_bind (check_bound_init F.excBase_ValueError.toExcCallFacts hC he rfl ?_)
  refine wpAny_bind (wpAny_pure (wpAny_pure ?_))
  refine ⟨plainId_quiet F.excBase_ValueError.init.plain _, codeAny_builtin F.excBase_ValueError.initEntry ?_⟩
  exact exc_init_tree (cls := .ref C) (t0 := t0) (dv := none) (c2 := .none) (c3 := .none) (b4 := .bool false) he hrest fun h' k e' _ => hq h' _ k e'
end
section
variable {P : Program} {w : World} {K : Frag} {C fI : Addr} {params : Arguments} {scope : Scope} {fd : FuncData} {A : Around} {s : Shared} {R : Result → Shared → Prop} {x t0 : Addr} {u : Value} {sf n f : Str} {mg mb : Str → Option Value} {args : Args}
variable {p0 p1 p2 p3 p4 p5 p6 p7 p8 p9 : Pos}
abbrev initB (sf n f : Str) (p0 p1 p2 p3 p4 p5 p6 p7 p8 p9 : Pos) : List Stmt :=
  [.Expr (.Call (.Attribute (.Call (.Name "super" p0) [] [] p1) "__init__" p2) [.Name n p3] [] p4) p5, .Assign [.Attribute (.Name sf p6) f p7] (.Name n p8) p9]
/-- the positions of the two rows are plain -/
abbrev CallE (n : Str) (p0 p1 p2 p3 p4 : Pos) : Prop := ∀ env : Env, eval (.Call (.Attribute (.Call (.Name "super" p0) [] [] p1) "__init__" p2) [.Name n p3] [] p4) env = (do
      let ov ← attributeBase (.Call (.Name "super" p0) [] [] p1) "__init__" env (eval (.Call (.Name "super" p0) [] [] p1) env)
      standAt p2.atName
      let (f, first) ← holding [ov] (getMethod ov "__init__" (do return (← importBound (.Call (.Name "super" p0) [] [] p1) env).getD true))
      callWith p4 f first (backTo p4 (starEach [.Name n p3] env)) [])
theorem init_run (hce : CallE n p0 p1 p2 p3 p4) (T : ExcI P K C fI params (initB sf n f p0 p1 p2 p3 p4 p5 p6 p7 p8 p9) scope fd) (KX : K.In s.heap) (gl : s.heap.Ns mainGlobals mg) (hms : mg "super" = none) (bl : s.heap.Ns builtinsNs mb) (hmb : mb "super" = bootBuiltins "super") (nl : s.heap.NoLimit)
    (hroom : A.depth < recursionLimit) (hx : s.heap.get? x = some (HandSPX.excO C t0)) (hb : BindsTo s fd args [(sf, .ref x), (n, u)]) (hno : findIn K (.ref C) f = some none) (Kx : K.lookup x = none)
    (hp : (params.posonlyargs ++ params.args).head?.map (·.arg) = some sf)
    (hks : scope.names.lookup ("super" : Str) = some .globalImplicit) (hkc : scope.names.lookup ("__class__" : Str) = some .free) (hka : scope.names.lookup sf = some .local) (hkn : scope.names.lookup n = some .local) (hk : scope.kind = .function) (hcell : ∀ x ∈ scope.names, x.2 ≠ .cell)
    (hco : scope.isCoroutine = false) (hgen : scope.isGenerator = false) (hsn : sf ≠ n) (hd1 : (sf == ("__debug__" : Str)) = false) (hd2 : (n == ("__debug__" : Str)) = false)
    (hR : ∀ h' tk dx t1, (∀ b o, b ≠ x → s.heap.get? b = some o → h'.get? b = some o) → s.heap.objs.size ≤ dx → dx ≠ x → h'.get? x = some ({ cls := .ref C, dict := some dx, data := .fields #[.ref t1, .none, .none, .none, .bool false, .none] } : Obj) →
      h'.Ns1 dx (fun y => if y = f then some u else none) → R (.ok (.ret .none)) { s with heap := h', toks := tk }) :
    codeAny (model P w) A (.call (.ref fI) args) R s := by
  obtain ⟨skd, snames, sgn, sco, smore⟩ := scope
  dsimp only at hks hkc hka hkn hk hcell hco hgen
  subst hk hco hgen
  obtain ⟨oc, od, osl, name, qual, dV, kV, doc, pm, an, cda, ct, cc, lk, rfl, hcd, ⟨ccl, cdd, vs, ccs, file, tf, hcode, hvs, hfile⟩, cl, cld, csl, hcl⟩ := T.fn
  obtain ⟨nm, q, N, bs, bm, sn, sub, ab, col, dd, k0, k1, k2, k3, k5, hC, hbm⟩ := T.oex.cls
  have hcls : clsIn K C = some { name := nm, bases := bs, mro := .ref C :: bm, ns := N, qualname := q, hasDict := true, slotNames := sn, subclasses := sub, abstract := ab, collection := col, hasDel := false } := by unfold clsIn; rw [hC] <;> rfl
  obtain ⟨ar, har, hae⟩ := Option.map_eq_some_iff.mp hp
  subst hae
  obtain ⟨hh, g, d, t, os⟩ := s
  refine ks_codeAny_call_defAt (fd := ksFn name qual params _ ⟨.function, snames, false, false, smore⟩ dV kV doc pm an (.ref cda) ct cc) (binds := [(ar.arg, .ref x), (n, u)]) hroom (KX _ _ lk) rfl nl (codeRec_of KX hcd) rfl hb hcell (fun y hy => ?_) (fun h₁ hns hk₁ => ?_) rfl rfl rfl
  · rcases List.mem_cons.mp hy with rfl | hy
    · exact hka
    · rcases List.mem_cons.mp hy with rfl | hy
      · exact hkn
      · cases hy
  have KX1 : K.In h₁ := KX.keeps hk₁
  have hx1 : h₁.get? x = some (HandSPX.excO C t0) := hk₁ _ _ hx
  have m1 : (fun y => ([(ar.arg, Value.ref x), (n, u)] : List (Str × Value)).reverse.lookup y) ar.arg = some (.ref x) := by
    show ([(n, u), (ar.arg, Value.ref x)] : List (Str × Value)).lookup ar.arg = _
    have e : (ar.arg == n) = false := by simpa using hsn
    simp [List.lookup, e]
  have m2 : (fun y => ([(ar.arg, Value.ref x), (n, u)] : List (Str × Value)).reverse.lookup y) n = some u := by
    show ([(n, u), (ar.arg, Value.ref x)] : List (Str × Value)).lookup n = _
    simp [List.lookup]
  generalize hL : hh.objs.size = L at hns ⊢
  have hCD : h₁.get? C = some (excClassObj nm q C N bs bm true sn sub ab col dd k0 k1 k2 k3 k5 "ValueError.__new__") := KX1 _ _ hC
  have envE : callEnv (ksFn name qual params (initB ar.arg n f p0 p1 p2 p3 p4 p5 p6 p7 p8 p9) ⟨.function, snames, false, false, smore⟩ dV kV doc pm an (.ref cda) ct cc) L fI = ksEnv qual ⟨.function, snames, false, false, smore⟩ L fI (.ref cda) cc := rfl
  rw [envE]
  -- super().__init__(n)
  refine ks_wpAt_execs_cons (ks_wpAt_Expr_any (ks_wpAt_MethodCall ?_ (hce _)))
  refine ks_wpAt_super_base (env := ksEnv qual ⟨.function, snames, false, false, smore⟩ L fI (.ref cda) cc) hks hkc (by decide) rfl (KX1 _ _ lk) rfl har rfl (KX1 _ _ hcode) rfl hvs hfile T.top ?_
  refine ks_loadName_global rfl hks (loadGlobal_builtin (env := ksEnv qual ⟨.function, snames, false, false, smore⟩ L fI (.ref cda) cc) (gl.keeps hk₁) hms (bl.keeps hk₁) (hmb.trans (by first | boot_by_name | rfl | kernel_rfl)) ⟨rfl, ?_⟩)
  refine wpAny_loadName_free rfl hkc rfl ⟨_, KX1 _ _ hcl, rfl⟩ ?_
  refine wpAny_loadName_local rfl hka hns m1 ?_
  refine ks_wpAny_isType_cls hCD rfl ⟨rfl, ?_⟩
  refine ks_wpAny_call_super hCD rfl hx1 rfl (fun c e => by cases e) (looks_mroIn KX1 T.sub) (fun h2 e2 k2' => ?_)
  have KX2 : K.In h2 := KX1.keeps k2'
  have hI : Looks (model P w) h2 (isInstance (.ref x) (.type "ValueError")) true := (InstAt.type (M := model P w) (ox := HandSPX.excO C t0) (od := none) ⟨k2' _ _ hx1, rfl, rfl, trivial⟩).andThen (looks_subIn KX2 T.ve)
  have hxC : x ≠ C := ks_ne KX1 (ox := HandSPX.excO C t0) (odx := none) ⟨hx1, rfl, rfl, trivial⟩ hcls
  have hup : alongIn K "__init__" (((Value.ref C :: bm).dropWhile (· != .ref C)).drop 1) = some (some (.builtin "ValueError.__init__")) := by
    have z := T.up
    unfold ks_superIn at z
    rw [hcls] at z
    exact z
  refine kxs_getMethod kxs_ValueError e2 (looks_opaque KX2 T.st) (l₀ := .ref C :: bm) ?_ rfl KX2 hup hI hxC (by decide) ?_
  · exact fun A Q E s k q => wpAny_bind ((looks_clsIn KX2 hcls) A _ E s k (wpAny_pure q))
  have hu3 : (h2.push (kxs_mw "ValueError.__init__" x)).get? h2.objs.size = some (kxs_mw "ValueError.__init__" x) := Heap.get?_push_at rfl rfl
  have k3' : ∀ b o, h2.get? b = some o → (h2.push (kxs_mw "ValueError.__init__" x)).get? b = some o := fun b o e => Heap.get?_push_of_some _ e
  have k13 : ∀ b o, h₁.get? b = some o → (h2.push (kxs_mw "ValueError.__init__" x)).get? b = some o := fun b o e => k3' b o (k2' b o e)
  refine kxs_callWith (i := "ValueError.__init__") (x := x) rfl (evalArgs_plain ?_)
  show wpAny _ _ (spliced ((false, eval (.Name n p3) (ksEnv qual ⟨.function, snames, false, false, smore⟩ L fI (.ref cda) cc)) :: backTo p4 (starEach [] (ksEnv qual ⟨.function, snames, false, false, smore⟩ L fI (.ref cda) cc)))) _ _ _
  refine Calls.spliced_cons (wpAny_Name (wpAny_loadName_local rfl hkn (hns.keeps k13) m2 ?_) hd2)
  refine Calls.spliced_nil ⟨hu3, ?_⟩
  refine call_bwVE (KX1.keeps k13 _ _ hC) (k13 _ _ hx1) hu3 (by rw [sizeLine_eq]; simp) fun h4 t1 k4 ex4 => ?_
  -- self.f = n
  have k14 : ∀ b o, b ≠ x → h₁.get? b = some o → h4.get? b = some o := fun b o ne e => k4 b o ne (k13 b o e)
  have KX4 : K.In h4 := fun b o e => k14 b o (fun z => by rw [z, Kx] at e; cases e) (KX1 b o e)
  have ex4' : h4.get? x = some ({ cls := .ref C, data := .fields #[.ref t1, .none, .none, .none, .bool false, .none] } : Obj) := ex4
  have xL : x ≠ L := fun z => by
    have := Heap.lt_size hx
    rw [hL, z] at this
    exact Nat.lt_irrefl _ this
  have hns4 : h4.Ns L (fun y => ([(ar.arg, Value.ref x), (n, u)] : List (Str × Value)).reverse.lookup y) := by
    obtain ⟨oL, es, ep, e1, r⟩ := hns
    exact ⟨oL, es, ep, k14 _ _ (Ne.symm xL) e1, r⟩
  refine ks_wpAt_execs_cons (ks_wpAt_Assign_Attr (wpAt_of_wpAny (wpAny_Name (wpAny_loadName_local rfl hkn hns4 m2 ?_) hd2)))
  refine wpAny_Name (wpAny_loadName_local rfl hka hns4 m1 ?_) hd1
  refine PySem.W.set_plain KX4 (ox := { cls := .ref C, dict := none, data := .fields #[.ref t1, .none, .none, .none, .bool false, .none] }) (od := none) ⟨ex4', rfl, rfl, trivial⟩ T.oex.sa ?_
  refine HandSPX.exc_osa KX4 ex4' hcls (show HandSPX.refsVE (.ref C :: bm) = true from hbm) rfl hno (fun h5 tk5 dx k5 dn5 dne5 hx5 hn5 => ?_)
  refine wpAt_of_wpAny (wpAny_execs_nil ?_)
  refine hR h5 _ dx t1 (fun b o ne e => k5 b o ne (k14 b o ne (hk₁ b o e))) ?_ dne5 hx5 hn5
  refine Nat.le_trans ?_ dn5
  obtain ⟨oL, _, _, e1, _⟩ := hns4
  show hh.objs.size ≤ h4.objs.size
  rw [hL]
  exact Nat.le_of_lt (Heap.lt_size e1)
/-- what it promises: self is an exception without a dict; it gets one -/
def spI (C : Addr) (f : Str) : Sp := fun vs H Q _ => ∃ (a : Addr) (v : V), vs = [.ref a, v] ∧ H a = some (exo a C none) ∧ ∀ d, H d = none → d ≠ a → Q .non (upd (upd H d (exd d [(f, v)])) a (exo a C (some d)))
theorem init_fn {base : Heap} {CX : CXT} {k : Nat} (hce : CallE n p0 p1 p2 p3 p4) (T : ExcI P K C fI params (initB sf n f p0 p1 p2 p3 p4 p5 p6 p7 p8 p9) scope fd) (hms : mg "super" = none) (hno : findIn K (.ref C) f = some none)
    (hp : (params.posonlyargs ++ params.args).head?.map (·.arg) = some sf)
    (hks : scope.names.lookup ("super" : Str) = some .globalImplicit) (hkc : scope.names.lookup ("__class__" : Str) = some .free) (hka : scope.names.lookup sf = some .local) (hkn : scope.names.lookup n = some .local) (hk : scope.kind = .function) (hcell : ∀ x ∈ scope.names, x.2 ≠ .cell)
    (hco : scope.isCoroutine = false) (hgen : scope.isGenerator = false) (hsn : sf ≠ n) (hd1 : (sf == ("__debug__" : Str)) = false) (hd2 : (n == ("__debug__" : Str)) = false) : FnOk P w K mg base CX k fI fd [sf, n] (spI C f) := by
  refine ⟨fun vs H Q E ⟨a, v, e, _⟩ => by rw [e] <;> rfl, fun A outer s H args us vs Q E hr e0 hb hv ⟨a, v, ev, ha, hq⟩ => ?_⟩
  subst ev
  cases hv with
  | @cons _ u0 _ ur ra rr =>
    cases rr with
    | @cons _ u1 _ ur1 rv rr2 =>
      cases rr2
      obtain rfl : u0 = Value.ref a := ra
      obtain ⟨mb, nsb, hbb⟩ := e0.mod.blt
      have up : ∀ b o, base.get? b = some o → s.heap.get? b = some o := fun b o e => (e0.bs b o e).1
      obtain ⟨t0, hx⟩ := exo_at e0.hok ha
      have Kx : K.lookup a = none := by
        cases q : K.lookup a with
        | none => rfl
        | some o =>
          have z := (e0.bs _ _ (e0.mod.kin _ _ q)).2
          rw [ha] at z; cases z
      refine init_run hce (mg := mg) (mb := mb) (t0 := t0) (u := u1) T (e0.mod.kin.keeps up) (e0.mod.glob.keeps up) hms (nsb.keeps up) (hbb _ (by decide)) (e0.mod.nolimit.keeps up) hr.depth hx hb hno Kx hp hks hkc hka hkn hk hcell hco hgen hsn hd1 hd2 fun h' tk dx t1 k5 dn dne hx5 hn5 => ?_
      have hnd : H dx = none := e0.hok.fresh dn
      have na : ∀ {b : Addr}, H b = none → b ≠ a := fun {b} nb z => by rw [z, ha] at nb; cases nb
      have nd : ∀ {b : Addr} {o : Obj}, s.heap.get? b = some o → b ≠ dx := fun {b o} q => Nat.ne_of_lt (Nat.lt_of_lt_of_le (Heap.lt_size q) dn)
      refine ⟨V.non, upd (upd H dx (exd dx [(f, v)])) a (exo a C (some dx)), rfl, e0.bare, ?_, fun b o q => ?_, rfl, hq dx hnd dne⟩
      · exact {
          keep := fun b o q n _ _ => k5 b o (na n) q
          slot := fun b o q n _ _ => ⟨o.slots, k5 b o (na n) q⟩
          free := fun b o q n _ => by rw [upd_ne (na n), upd_ne (nd q)]; exact n
          there := fun b o q _ => by
            by_cases hb : b = a
            · exact ⟨_, by rw [hb]; exact hx5⟩
            · exact ⟨o, k5 b o hb q⟩
          tups := fun b xs q => by rw [upd_ne (at_ne ha q exo_tup), upd_ne (ne_of_none q hnd)]; exact q
          frzs := fun b o v q => by rw [upd_ne (at_ne ha q exo_frz), upd_ne (ne_of_none q hnd)]; exact q
          tbls := fun b ps q => ⟨#[], by rw [upd_ne (at_ne ha q exo_tbl), upd_ne (ne_of_none q hnd), q]; simp⟩ }
      · by_cases hb : b = a
        · subst hb
          rw [upd_same] at q
          cases q
          exact exo_ok hx5
        · rw [upd_ne hb] at q
          by_cases hd : b = dx
          · subst hd
            rw [upd_same] at q
            cases q
            exact exd_ok hn5 (relO_put (fs := []) rv fun g => True.intro)
          · rw [upd_ne hd] at q
            exact (e0.hok b o q).stay (fun c v hc z => k5 c v (by
                rcases hc with hc | hc
                · rw [hc]
                  exact hb
                · exact at_ne ha hc exo_own) z)
              (fun c hc => by rw [upd_ne (at_ne ha hc exo_own), upd_ne (ne_of_none hc hnd)]; exact hc) (fun c xs hc => by rw [upd_ne (at_ne ha hc exo_tup), upd_ne (ne_of_none hc hnd)]; exact hc)
end
section
variable {X : Cx} {CX : CXT} {x : Str} {C fI : Addr} {k : Nat} {fd : FuncData} {sf n f : Str} {e : Expr} {ta : TA} {p pos : Pos}
theorem PMk.mono {t t' : L2.St → Hp → XK → Prop} (h : PMk X e t) (m : ∀ σ H Q, t' σ H Q → t σ H Q) : PMk X e t' := fun pins s σ H Q I q => h pins s σ H Q I (m σ H Q q)
end
end DXE
/-! DL73: defs that may raise an exception of a class of the program. -/
namespace DL
open PySem PySem.Spec PyProof.Rows L2
variable {G : Type}
section
variable {X : Cx} {pins : List (Addr × Obj)}
theorem psNox {st : Stmt} {t : TS} (h : PS X.nox st t) : PS X st t := ⟨fun pins s σ H D I hw =>
  wpAny_mono (h.run pins s σ H D (I.wish _) hw) (fun _ _ q => q.unwish) fun _ _ z => False.elim z⟩
theorem paNox {es : List Expr} {t : TA} (h : PA X.nox es t) : PA X es t := ⟨fun pos pins s σ H Q I hw =>
  wpAny_mono (h.run pos pins s σ H Q (I.wish _) hw) (fun _ _ ⟨v, H', I', r, q⟩ => ⟨v, H', I'.unwish, r, q⟩) fun _ _ z => False.elim z⟩
end
/-- contexts that exceptions may leave; E: what is wished of them -/
structure XF where
  C : CF
  Y : C.ι → Cx
  E : C.ι → XK
  nox : ∀ j, (Y j).nox = C.X j
  tk : ∀ j, Takes (Y j) (fun cls d _ H => E j cls d H)
  own : ∀ j, PassesOwn (model C.prog C.w) (Y j).A (Y j).env (Y j).xe
section
variable (Y : XF)
theorem XF.hP (j) : (Y.Y j).prog = Y.C.prog := (congrArg Cx.prog (Y.nox j)).trans (Y.C.hP j)
theorem XF.hw (j) : (Y.Y j).w = Y.C.w := (congrArg Cx.w (Y.nox j)).trans (Y.C.hw j)
theorem XF.hK (j) : (Y.Y j).K = Y.C.K := (congrArg Cx.K (Y.nox j)).trans (Y.C.hK j)
theorem XF.hmg (j) : (Y.Y j).mg = Y.C.mg := (congrArg Cx.mg (Y.nox j)).trans (Y.C.hmg j)
theorem XF.hbase (j) : (Y.Y j).base = Y.C.base := (congrArg Cx.base (Y.nox j)).trans (Y.C.hbase j)
theorem XF.hN (j) : (Y.Y j).N = Y.C.N := (congrArg Cx.N (Y.nox j)).trans (Y.C.hN j)
theorem XF.calm (j) : (Y.Y j).calm = true := (congrArg Cx.calm (Y.nox j)).trans (Y.C.calm j)
theorem XF.eA (j) : (Y.Y j).A = (Y.C.X j).A := by have := congrArg Cx.A (Y.nox j); exact this
theorem XF.hr (j) : Room Y.C.room (Y.Y j).A := by rw [Y.eA]; exact Y.C.hr j
theorem XF.hgd (j) : (Y.Y j).A.guards = some [] := by rw [Y.eA]; exact Y.C.hgd j
theorem XF.nd (j) : (Y.Y j).N.Nodup := by rw [Y.hN]; exact Y.C.nd
theorem XF.pe {j} {e : Expr} {t : TE} (h : PE (Y.C.X j) e t) : PE (Y.Y j) e t := by rw [← Y.nox j] at h; exact h.nox
theorem XF.pt {j} {e : Expr} {t : TT} (h : PT (Y.C.X j) e t) : PT (Y.Y j) e t := by rw [← Y.nox j] at h; exact h.nox
theorem XF.ps {j} {e : Stmt} {t : TS} (h : PS (Y.C.X j) e t) : PS (Y.Y j) e t := by rw [← Y.nox j] at h; exact psNox h
theorem XF.pss {j} {e : List Stmt} {t : TS} (h : PSs (Y.C.X j) e t) : PSs (Y.Y j) e t := by rw [← Y.nox j] at h; exact h.nox
theorem XF.pa {j} {e : List Expr} {t : TA} (h : PA (Y.C.X j) e t) : PA (Y.Y j) e t := by rw [← Y.nox j] at h; exact paNox h
end
/-! ### exceptions as data: the class's name, its one field -/
structure Exn where
  cls : Str
  fld : Option (Str × D)
def ExAt (K : PySem.W.Frag) (mg : Str → Option Value) (W : Wd G) (P : PM) (H : Hp) (x : Exn) (cls : Value) (d : Option Addr) : Prop :=
  ∃ C, mg x.cls = some (.ref C) ∧ cls = .ref C ∧ match x.fld with
    | none => d = none
    | some (f, e) => ∃ dd v, d = some dd ∧ H dd = some (.xd [(f, v)]) ∧ Rep K W P e v
/-- what is wished of the exception x that leaves a state that came of P₀ H₀ -/
def ExK (K : PySem.W.Frag) (mg : Str → Option Value) (W : Wd G) (P₀ : PM) (H₀ : Hp) (g' : G) (x : Exn) (E : XK) : Prop := ∀ cls d P' H', Out W P₀ H₀ P' H' g' → ExAt K mg W P' H' x cls d → E cls d H'
abbrev RM (G : Type) := Sl → G → Option (Exn × G)
def RaE (K : PySem.W.Frag) (mg : Str → Option Value) (W : Wd G) (t : XK → TE) (r : RM G) : Prop :=
  ∀ (P₀ : PM) (H₀ : Hp) (σ : L2.St) (st : Sl) (τ : List V) (ts : List S) (H : Hp) (g : G) (x : Exn) (g' : G) (E : XK) (Q : VK), Rel K W P₀ H₀ σ st τ ts H g → r st g = some (x, g') → ExK K mg W P₀ H₀ g' x E → t E σ H Q
def RaA (K : PySem.W.Frag) (mg : Str → Option Value) (W : Wd G) (t : XK → TA) (r : RM G) : Prop :=
  ∀ (P₀ : PM) (H₀ : Hp) (σ : L2.St) (st : Sl) (τ : List V) (ts : List S) (H : Hp) (g : G) (x : Exn) (g' : G) (E : XK) (Q : List V → Hp → Prop), Rel K W P₀ H₀ σ st τ ts H g → r st g = some (x, g') → ExK K mg W P₀ H₀ g' x E → t E σ H Q
def RaS (K : PySem.W.Frag) (mg : Str → Option Value) (W : Wd G) (t : XK → TS) (r : RM G) : Prop :=
  ∀ (P₀ : PM) (H₀ : Hp) (σ : L2.St) (st : Sl) (τ : List V) (ts : List S) (H : Hp) (g : G) (x : Exn) (g' : G) (E : XK) (D : Ends), NoAt ts → Rel K W P₀ H₀ σ st τ ts H g → r st g = some (x, g') → ExK K mg W P₀ H₀ g' x E → t E D σ H
structure XE (Y : XF) (Fam : Wd G → Prop) (e : Expr) (f : M G S) (r : RM G) : Prop where
  ex : ∃ t : XK → TE, (∀ j, PE (Y.Y j) e (t (Y.E j))) ∧ ∀ W, Fam W → (∀ E, EvE Y.C.K W (t E) f) ∧ RaE Y.C.K Y.C.mg W t r
structure XA (Y : XF) (Fam : Wd G → Prop) (es : List Expr) (f : M G (List D)) (r : RM G) : Prop where
  ex : ∃ t : XK → TA, (∀ j, PA (Y.Y j) es (t (Y.E j))) ∧ ∀ W, Fam W → (∀ E, EvA' Y.C.K W (t E) f) ∧ RaA Y.C.K Y.C.mg W t r
  len : ∀ st g ds st' g', f st g = some (ds, st', g') → ds.length = es.length
structure XS (Y : XF) (Fam : Wd G → Prop) (st : Stmt) (f : M G Fl) (r : RM G) : Prop where
  ex : ∃ t : XK → TS, (∀ j, PS (Y.Y j) st (t (Y.E j))) ∧ ∀ W, Fam W → (∀ E, EvS Y.C.K W (t E) f) ∧ RaS Y.C.K Y.C.mg W t r
structure XSs (Y : XF) (Fam : Wd G → Prop) (st : List Stmt) (f : M G Fl) (r : RM G) : Prop where
  ex : ∃ t : XK → TS, (∀ j, PSs (Y.Y j) st (t (Y.E j))) ∧ ∀ W, Fam W → (∀ E, EvS Y.C.K W (t E) f) ∧ RaS Y.C.K Y.C.mg W t r
def rNo : RM G := fun _ _ => none
section
variable {Y : XF} {Fam : Wd G → Prop} {e : Expr} {es : List Expr} {pos p : Pos} {s1 : Stmt} {rest : List Stmt} {a b : M G Fl} {ra rb r : RM G} {f : M G S}
theorem DE.x (h : DE Y.C Fam e f) : XE Y Fam e f rNo := let ⟨t, q, ev⟩ := h.ex; ⟨fun _ => t, fun j => Y.pe (q j), fun W hW => ⟨fun _ => ev W hW, fun P₀ H₀ σ st τ ts H g x g' E Q R h => nomatch h⟩⟩
theorem DAs.x {f : M G (List D)} (h : DAs Y.C Fam es f) : XA Y Fam es f rNo := ⟨let ⟨t, q, ev⟩ := h.ex; ⟨fun _ => t, fun j => Y.pa (q j), fun W hW => ⟨fun _ => ev W hW, fun P₀ H₀ σ st τ ts H g x g' E Q R h => nomatch h⟩⟩, h.len⟩
theorem DS.x (h : DS Y.C Fam s1 a) : XS Y Fam s1 a rNo := let ⟨t, q, ev⟩ := h.ex; ⟨fun _ => t, fun j => Y.ps (q j), fun W hW => ⟨fun _ => ev W hW, fun P₀ H₀ σ st τ ts H g x g' E D n R h => nomatch h⟩⟩
theorem DSs.x (h : DSs Y.C Fam rest a) : XSs Y Fam rest a rNo := let ⟨t, q, ev⟩ := h.ex; ⟨fun _ => t, fun j => Y.pss (q j), fun W hW => ⟨fun _ => ev W hW, fun P₀ H₀ σ st τ ts H g x g' E D n R h => nomatch h⟩⟩
/-! ### arguments -/
/-! ### the promise of a def that may raise -/
abbrev RF (G : Type) := List D → G → Option (Exn × G)
def spFX (K : PySem.W.Frag) (mg : Str → Option Value) (Fam : Wd G → Prop) (n : Nat) (F : Fn G) (R : RF G) : Sp := fun vs H Q E =>
  ∃ (W : Wd G) (P : PM) (ds : List D) (g : G), Fam W ∧ vs.length = n ∧ Ent W P H g ∧ Reps K W P ds vs ∧
    ((∃ d g', F ds g = some (d, g') ∧ ∀ v H' P', Out W P H P' H' g' → Rep K W P' d v → Q v H') ∨ ∃ x g', R ds g = some (x, g') ∧ ExK K mg W P H g' x E)
structure FDX (P : Program) (w : World) (K : PySem.W.Frag) (mg : Str → Option Value) (base : Heap) (Fam : Wd G → Prop) (k : Nat) (x : Str) (n : Nat) (F : Fn G) (R : RF G) : Prop where
  ex : ∃ f fd ps, DZ.FnG P w K mg base (L2.CX P w) k f fd ps (spFX K mg Fam n F R) ∧ mg x = some (.ref f) ∧ PySem.W.keepIn K (.ref f) = true ∧ Binds K fd ps []
theorem FDX.mono {P : Program} {w : World} {K : PySem.W.Frag} {mg : Str → Option Value} {base : Heap} {j k n : Nat} {x : Str} {F : Fn G} {R : RF G} (h : FDX P w K mg base Fam j x n F R) (hk : j ≤ k) : FDX P w K mg base Fam k x n F R :=
  let ⟨f, fd, ps, a, b, c, d⟩ := h.ex; ⟨f, fd, ps, a.mono hk, b, c, d⟩
theorem Out.keep {W : Wd G} {P P' : PM} {H H' : Hp} {g' : G} (o : Out W P H P' H' g') : ∀ a u, H a = some u → ¬ W.fp P.ob a → H' a = some u := fun a u h n => o.same a u h fun z => by
  rcases o.fpn a z with z | z
  · exact n z
  · rw [h] at z; cases z
theorem Out.trans {W : Wd G} {P P1 P2 : PM} {H H1 H2 : Hp} {g1 g2 : G} (a : Out W P H P1 H1 g1) (b : Out W P1 H1 P2 H2 g2) : Out W P H P2 H2 g2 where
  pp := a.pp.trans b.pp
  sub := b.sub
  nfp := b.nfp
  new := fun x e => by
    rcases b.new x e with h | h
    · exact a.new x h
    · by_cases q : W.fp P.ob x
      · exact absurd (W.mono _ _ x (a.pp.trans b.pp).2 q) (b.nfp x e)
      · right
        cases z : H x with
        | none => rfl
        | some o => have := a.keep x o z q; rw [h] at this; cases this
  fpn := fun x e => by
    rcases b.fpn x e with h | h
    · exact a.fpn x h
    · by_cases q : W.fp P.ob x
      · exact .inl q
      · right
        cases z : H x with
        | none => rfl
        | some o => have := a.keep x o z q; rw [h] at this; cases this
  same := fun x o e n => by
    have n1 : ¬ W.fp P1.ob x := fun z => n (W.mono _ _ x b.pp.2 z)
    exact b.keep x o (a.same x o e n1) n1
  wld := b.wld
end
/-! ### the def -/
end DL
/-! DX22: isinstance of a caught error that has fields; x(lambda: body) where no repr runs; the def that calls it and tells of the error. -/
namespace DXE
open PySem PySem.Spec PySem.Calls PyProof.Rows L2 PySem.W
section
variable {prog : Program} {w : World} {A : Around} {E : Value → Shared → Prop} {s : Shared} {K : Frag} {x D : Addr} {ox : Obj} {od : Option Obj}
theorem findObj_dataA {C : Addr} {name : Str} {a g : Value} (hc : (clsIn K C).isSome = true) (ha : findIn K (.ref C) name = some (some a)) (hg : specialIn K a "__get__" = some (some g)) (ht : takesIn K a = some true) : findObj K C od name = some (.bind g a) := by
  obtain ⟨cd, hc⟩ := Option.isSome_iff_exists.mp hc
  unfold findObj
  rw [hc, Option.bind_some, ha, Option.bind_some]
  simp [hg, ht]
theorem kin_classEA {Q : Option Value → Shared → Prop} (C : ExcC K D) (X : K.In s.heap) (I : InstAt s.heap x ox D od) (h : Q (some (.ref D)) { s with toks := s.toks + 1 }) : wpAny (model prog w) A (getAttr? (.ref x) "__class__") Q E s := by
  obtain ⟨hga, hgt, hsub, hdct, ha, hn, htk, hm⟩ := C
  have hf : findObj K D od "__class__" = some (.bind (.builtin "getset_descriptor.__get__") (.builtin "object.__class__")) := findObj_dataA (by obtain ⟨cd, hc, _⟩ := any_some hdct; rw [hc]; rfl) ha hn htk
  obtain ⟨hp, g, d, t, os⟩ := s
  have L0 := I.type (M := model prog w)
  have L1 := looks_findIn (M := model prog w) X hga
  have L2 := looks_findIn (M := model prog w) X hgt
  have L3 := looks_find (M := model prog w) X I hf
  have sub : Looks (model prog w) hp (isInstance (.ref x) (.type "BaseException")) true := L0.andThen (looks_subIn X hsub)
  have hx0 : (false && onTheHeap (Value.builtin "BaseException.__getattribute__")) = false := rfl
  have hx2 : (Value.builtin "BaseException.__getattribute__" == Value.builtin "object.__getattribute__") = false := by decide +kernel
  have hx1 : (onTheHeap (Value.ref D) && Value.builtin "BaseException.__getattribute__" == Value.builtin "object.__getattribute__") = false := by rw [hx2]; rfl
  unfold getAttr? getAttrBy? getAttrBy
  refine wpAny_bind (wpAny_mkText (wpAny_bind (wpAny_attempt (wpAny_holding (wpAny_bind (L0.at (wpAny_bind (L1.at ?_))))))))
  show wpAny _ _ (if (onTheHeap (Value.ref D) && Value.builtin "BaseException.__getattribute__" == Value.builtin "object.__getattribute__") = true then _ else _) _ _ _
  rw [hx1, if_neg Bool.false_ne_true]
  unfold getAttrByItsOwn hookBefore
  refine wpAny_bind ?_
  rw [if_pos (show onTheHeap (Value.ref D) = true from rfl)]
  refine L2.at ?_
  refine wpAny_bind (wpAny_attempt (wpAny_holding ?_))
  unfold callGetattribute
  rw [hx0, if_neg Bool.false_ne_true]
  unfold boundAndCalled
  rw [PySem.F.excAttr_ValueError.ga.bind (.ref x)]
  refine wpAny_bind (wpAny_pure ?_)
  show wpAny _ _ (call (.builtin "BaseException.__getattribute__") [.ref x, .str "__class__" t]) _ _ _
  refine wpAny_call (codeAny_call_builtin PySem.F.excAttr_ValueError.ga.plain PySem.F.entry_bexc_ga ?_)
  refine @check_slot (model prog w) _ _ ⟨hp, g, d, t + 1, os⟩ "BaseException.__getattribute__" "BaseException" "__getattribute__" (.ref x) [.str "__class__" t] [] _ (by decide +kernel) (by decide +kernel) sub (PySem.F.args_bexc_ga (.ref x) (.str "__class__" t)) ?_
  unfold Builtin.«object.__getattribute__»
  refine wpAny_bind (wpAny_of_eq (a := ((Value.ref x : Value), [Value.str "__class__" t])) (by first | rfl | (simp only [slotArgs]; rfl)) ?_)
  refine wpAny_bind (wpAny_pure (wpAny_bind (L0.at (wpAny_bind (L3.at ?_)))))
  show wpAny _ _ (holding [Value.builtin "object.__class__"] (call (.builtin "getset_descriptor.__get__") [.builtin "object.__class__", .ref x, .ref D]) >>= ret) _ _ _
  refine wpAny_bind (wpAny_holding (wpAny_call (class_get (s := ⟨hp, g, d, t + 1, os⟩) (ox := ox) (od := od) X I hm ?_)))
  refine wpAny_pure ?_
  show wpAny _ _ (handedOut (.ref D)) _ _ _
  rw [handedOut_of (v := .ref D) rfl]
  first
    | exact wpAny_pure (wpAny_pure h)
    | exact wpAny_pure h
    | exact wpAny_pure (wpAny_bind (wpAny_pure (wpAny_pure h)))
theorem kitx_excA (C : ExcC K D) : KitX K (.ref x) (.ref D) (fun h => InstAt h x ox D od) where
  ty := fun _ _ _ I => I.type
  it := fun _ _ X _ => by
    obtain ⟨cdD, hcD, _⟩ := any_some C.hd
    unfold clsIn at hcD
    split at hcD
    · rename_i c' d' cd' sl' ho
      intro A' Q' E' s' k q
      unfold isType loadHead
      exact wpAny_bind (wpAny_loadPart (k _ _ (X _ _ ho)) (wpAny_pure q))
    · cases hcD
  ne := fun h tp dd its n sl X htp => by
    obtain ⟨cdD, hcD, _⟩ := any_some C.hd
    refine Bool.eq_false_iff.mpr fun q => ?_
    have e : D = tp := Value.ref.inj (beq_iff_eq.mp q)
    subst e
    unfold clsIn at hcD
    split at hcD
    · rename_i c' d' cd' sl' ho
      have z := (X _ _ ho).symm.trans htp
      cases z
    · cases hcD
  ca := fun X I k => kin_classEA C X I k
end
/-! ### x(lambda: body), the guards of repr told -/
/-! ### the def that tells -/
end DXE
/-! DL74: raise C(e); loops that exceptions leave; a def that tells what a lambda does. -/
namespace DL
open PySem PySem.Spec PyProof.Rows L2
variable {G : Type}
/-! ### C(e) is raised -/
structure RzC (P : Program) (w : World) (K : PySem.W.Frag) (mg : Str → Option Value) (base : Heap) (c f : Str) : Prop where
  ex : ∃ C fI fd sf n, mg c = some (.ref C) ∧ OexC K C ∧ PySem.W.findIn K (.ref C) "__init__" = some (some (.ref fI)) ∧ PySem.W.typeIn K (.ref fI) = some (.type "function") ∧ L2.Binds K fd [sf, n] [] ∧ FnOk P w K mg base C8.CX0 0 fI fd [sf, n] (DXE.spI C f)
/-! ### for -/
theorem piNox {X : Cx} {tg e : Expr} {t : TI} (h : PI X.nox tg e t) : PI X tg e t := ⟨fun pins s σ H R I hw =>
  wpAny_mono (h.run pins s σ H R (I.wish _) hw) (fun _ _ q => wpAny_mono q (fun _ _ ⟨it, fp, tn, J, H', a, I', b, c, d, e⟩ => ⟨it, fp, tn, J, H', a, I'.unwish, b, c, d, e⟩) fun _ _ z => False.elim z) fun _ _ z => False.elim z⟩
def RaI (K : PySem.W.Frag) (mg : Str → Option Value) (W : Wd G) (t : XK → TI) (r : RM G) : Prop :=
  ∀ (P₀ : PM) (H₀ : Hp) (σ : L2.St) (st : Sl) (τ : List V) (ts : List S) (H : Hp) (g : G) (x : Exn) (g' : G) (E : XK) (R : It → Hp → Prop), Rel K W P₀ H₀ σ st τ ts H g → r st g = some (x, g') → ExK K mg W P₀ H₀ g' x E → t E σ H R
structure XI (Y : XF) (Fam : Wd G → Prop) (A : Bool) (tg iter : Expr) (f : M G (List D × List S)) (r : RM G) : Prop where
  ex : ∃ t : XK → TI, (∀ j, PI (Y.Y j) tg iter (t (Y.E j))) ∧ ∀ W, Fam W → (∀ E, EvI Y.C.K W A (t E) f) ∧ RaI Y.C.K Y.C.mg W t r
section
variable {Y : XF} {Fam : Wd G → Prop} {tg iter e : Expr} {pos : Pos} {body : List Stmt}
theorem DI.x {A : Bool} {f : M G (List D × List S)} (h : DI Y.C Fam A tg iter f) : XI Y Fam A tg iter f rNo := let ⟨t, q, ev⟩ := h.ex; ⟨fun _ => t, fun j => piNox (by rw [Y.nox]; exact q j), fun W hW => ⟨fun _ => ev W hW, fun P₀ H₀ σ st τ ts H g x g' E Q R h => nomatch h⟩⟩
end
/-! ### a lambda's body -/
end DL
/-! DL75: the head where exceptions of the program are raised and several defs make lambdas. -/
namespace DL
open PySem PySem.Spec PyProof.Rows L2
/-! ### the law's call, some tables tracked -/
structure TrkN (H : Hp) (a : Addr) (ts : List (Addr × Addr)) : Prop where
  tb : ∀ p ∈ ts, H p.2 = some (.tbl #[])
  all : ∀ b u, H b = some u → ((∃ p ∈ ts, b = p.2) ∧ u = .tbl #[]) ∨ (b = a ∧ ∃ o xs, u = .frz o (.lst xs))
theorem law_callGTs {P : Program} {w : World} {K : PySem.W.Frag} {mg mb : Str → Option Value} {k : Nat} {fa a : Addr} {ts : List (Addr × Addr)} {fd : FuncData} {x : Str} {sp : Sp} {s₁ : Shared} {vs : List Value} {ns : List Int}
    (KX : K.In s₁.heap) (gm : s₁.heap.Ns mainGlobals mg) (gb : s₁.heap.Ns builtinsNs mb) (bb : ∀ x : Str, x ≠ "__name__" → mb x = bootBuiltins x) (nl : s₁.heap.NoLimit) (ng : s₁.gens = #[])
    (tE : ∀ p ∈ ts, s₁.heap.get? p.2 = some { cls := .none, data := .fields #[] }) (tK : ∀ p ∈ ts, K.lookup p.2 = none) (tC : ∀ p ∈ ts, PySem.W.codeHdIn K p.1 p.2 = true)
    (bm : ∃ (m : Addr) (ob : Obj), mg "__builtins__" = some (.ref m) ∧ m ≠ builtinsNs ∧ s₁.heap.get? m = some ob ∧ ob.cls = .type "module" ∧ ob.dict = some builtinsNs ∧ ob.data = .plain)
    (sc : s₁.heap.get? a = some { cls := .type "list", data := .seq vs.toArray }) (hi : IntsAre vs ns) (hl : ns.length ≤ sizeLine) (hr : Room k callerA)
    (F : ∀ base : Heap, K.In base → base.Ns mainGlobals mg → (∀ p ∈ ts, LamX.TabB base mg p.1 p.2) → DZ.FnG P w K mg base CX0 k fa fd [x] sp) (bd : ∀ (s : Shared) (u : Value), BindsTo s fd ⟨[u], []⟩ [(x, u)])
    (hsp : ∀ H : Hp, (∀ p ∈ ts, H p.2 = some (.tbl #[])) → SqL K H a (ns.map V.int) → sp [.ref a] H (fun v _ => v = .bl true) fun _ _ _ => False) :
    codeAny (model P w) callerA (.call (.ref fa) ⟨[.ref a], []⟩) (fun r s' => r = .ok (.ret (.bool true)) ∧ OldK s₁.heap s'.heap ∧ s'.os = s₁.os ∧ AllBare s'.gens) s₁ := by
  classical
  have aP : ∀ p ∈ ts, a ≠ p.2 := fun p hp e => by have := tE p hp; rw [← e, sc] at this; exact nomatch congrArg (fun o : Option Obj => o.map (·.cls)) this
  have go : ∀ H : Hp, TrkN H a ts → SqL K H a (ns.map V.int) → HOk P w H s₁.heap → (H a ≠ none → K.lookup a = none) →
      codeAny (model P w) callerA (.call (.ref fa) ⟨[.ref a], []⟩) (fun r s' => r = .ok (.ret (.bool true)) ∧ OldK s₁.heap s'.heap ∧ s'.os = s₁.os ∧ AllBare s'.gens) s₁ := by
    intro H tr hS ok hK
    have un : ∀ {b : Addr} {o : Obj}, s₁.heap.get? b = some o → (∀ is n, o.data ≠ .seq is n) → (∀ is, o.data ≠ .fields is) → H b = none := fun {b o} e h1 h2 => by
      cases q : H b with
      | none => rfl
      | some u =>
        rcases tr.all b u q with ⟨⟨p, hp, rfl⟩, _⟩ | ⟨rfl, _⟩
        · rw [tE p hp] at e; cases e; exact absurd rfl (h2 _)
        · rw [sc] at e; cases e; exact absurd rfl (h1 _ _)
    have nsH : ∀ {b : Addr} {m : Str → Option Value}, s₁.heap.Ns b m → (hidT s₁.heap H).Ns b m := fun {b m} ⟨o, es, ep, e, d, r⟩ =>
      ⟨o, es, ep, hidT_get e (un e (fun is n z => by rw [d] at z; cases z) (fun is z => by rw [d] at z; cases z)), d, r⟩
    have kin : K.In (hidT s₁.heap H) := fun b o e => hidT_get (KX b o e) (by
      cases q : H b with
      | none => rfl
      | some u =>
        rcases tr.all b u q with ⟨⟨p, hp, rfl⟩, _⟩ | ⟨rfl, _⟩
        · rw [tK p hp] at e; cases e
        · rw [hK (by rw [q]; simp)] at e; cases e)
    have md : Mod K mg (hidT s₁.heap H) := ⟨kin, nsH gm, ⟨mb, nsH gb, bb⟩, let ⟨mc, h1, h2⟩ := nl; ⟨mc, nsH h1, h2⟩⟩
    have gne : ∀ p ∈ ts, mainGlobals ≠ p.2 := fun p hp z => by
      obtain ⟨o, es, ep, e, d, _⟩ := gm
      rw [z, tE p hp] at e; cases e; cases d
    have blt : ∀ p ∈ ts, (hidT s₁.heap H).BuiltinsAt mg p.2 := fun p hp => by
      obtain ⟨m, ob, b1, b2, b3, b4, b5, b6⟩ := bm
      refine ⟨m, ob, b1, b2, fun q => ?_, fun q => ?_, hidT_get b3 (un b3 (fun is n z => by rw [b6] at z; cases z) (fun is z => by rw [b6] at z; cases z)), b4, b5, b6⟩
      · obtain ⟨o, es, ep, e, d, _⟩ := gm
        rw [q, e] at b3; cases b3; rw [d] at b6; cases b6
      · rw [q, tE p hp] at b3; cases b3; cases b6
    have e0 : Env0 P w K mg (hidT s₁.heap H) callerA [] s₁ H := ⟨rfl, md, fun b o e => of_hidT e, Nat.le_of_eq (hidT_size _ _), trivial, (fun b hb => by simp [frs] at hb), ok, .of_eq ng⟩
    refine codeAny_mono ((F _ kin (nsH gm) (fun p hp => NdefX.tabB_of_K kin (tC p hp) (blt p hp) (gne p hp))).run callerA [] s₁ H ⟨[.ref a], []⟩ [.ref a] [.ref a] _ _ hr rfl e0 (bd s₁ (.ref a)) (.cons rfl .nil) (hsp H tr.tb hS)) fun r s' h => ?_
    match r, h with
    | .error e, h => exact h.elim
    | .ok .next, h => exact h.elim
    | .ok .brk, h => exact h.elim
    | .ok .cont, h => exact h.elim
    | .ok (.ret u), ⟨v, H', os, bare, un', ok', r', q⟩ =>
      have q : v = .bl true := q
      subst q
      obtain rfl : u = Value.bool true := r'
      have hm : ∀ p ∈ ts, ∃ more, s'.heap.get? p.2 = some { cls := .none, data := .fields (#[] ++ more) } := fun p hp => by
        obtain ⟨more, hm⟩ := un'.tbls p.2 #[] (tr.tb p hp)
        exact ⟨more, ok' p.2 _ hm⟩
      have stay : ∀ b o, (∀ p ∈ ts, b ≠ p.2) → s₁.heap.get? b = some o → s'.heap.get? b = some o := fun b o nb e => by
        cases z : H b with
        | none => exact un'.keep b o e z (by simp [frs]) (by simp)
        | some u =>
          rcases tr.all b u z with ⟨⟨p, hp, hb⟩, _⟩ | ⟨_, ob, xs, hu⟩
          · exact absurd hb (nb p hp)
          · subst hu
            have h1 : ObjOk P w H s₁.heap b (.frz ob (.lst xs)) := ok b _ z
            have h2 : ObjOk P w H' s'.heap b (.frz ob (.lst xs)) := ok' b _ (un'.frzs _ _ _ z)
            obtain ⟨e1, _⟩ := h1
            rw [e] at e1; cases e1
            exact h2.1
      refine ⟨rfl, ⟨fun b o e => ?_, fun b o e => ?_⟩, os, bare⟩
      · by_cases hb : ∃ p ∈ ts, b = p.2
        · obtain ⟨p, hp, rfl⟩ := hb
          have e2 := tE p hp
          rw [e2] at e; cases e
          obtain ⟨more, hP'⟩ := hm p hp
          exact .inr (.inl ⟨((PySem.W.codeHd_of_K KX (tC p hp)).tab e2).isCodeTable, rfl, #[], more, rfl, hP'⟩)
        · exact .inl (stay b o (fun p hp z => hb ⟨p, hp, z⟩) e)
      · by_cases hb : ∃ p ∈ ts, b = p.2
        · obtain ⟨p, hp, rfl⟩ := hb
          obtain ⟨more, hP'⟩ := hm p hp
          exact ⟨_, hP'⟩
        · exact ⟨o, stay b o (fun p hp z => hb ⟨p, hp, z⟩) e⟩
  have tO : ∀ p ∈ ts, ∀ H : Hp, ObjOk P w H s₁.heap p.2 (.tbl #[]) := fun p hp H => tE p hp
  cases hk : K.lookup a with
  | some o =>
    have e := KX a o hk
    rw [sc] at e
    cases e
    have na : ¬ ∃ p ∈ ts, a = p.2 := fun ⟨p, hp, z⟩ => aP p hp z
    refine go (fun b => if (∃ p ∈ ts, b = p.2) then some (.tbl #[]) else none) ⟨fun p hp => if_pos ⟨p, hp, rfl⟩, fun b u z => ?_⟩ (.inr ⟨_, vs.toArray, _, hk, rfl, rfl, rfl, by rw [List.size_toArray, hi.length]; exact hl, by simpa using vals_ints hi⟩) (fun b u z => ?_) fun z => absurd (if_neg na) z
    · by_cases h : ∃ p ∈ ts, b = p.2
      · exact .inl ⟨h, Option.some.inj (z.symm.trans (if_pos h))⟩
      · cases (if_neg h).symm.trans z
    · by_cases h : ∃ p ∈ ts, b = p.2
      · cases (if_pos h).symm.trans z
        obtain ⟨p, hp, rfl⟩ := h
        exact tO p hp _
      · cases (if_neg h).symm.trans z
  | none =>
    have na : ¬ ∃ p ∈ ts, a = p.2 := fun ⟨p, hp, z⟩ => aP p hp z
    refine go (fun b => if (∃ p ∈ ts, b = p.2) then some (.tbl #[]) else if b = a then some (.frz { cls := .type "list", data := .seq vs.toArray } (.lst (ns.map V.int))) else none) ⟨fun p hp => if_pos ⟨p, hp, rfl⟩, fun b u z => ?_⟩
      (.inl (.inr ⟨{ cls := .type "list", data := .seq vs.toArray }, (if_neg na).trans (if_pos rfl)⟩)) (fun b u z => ?_) fun _ => hk
    · by_cases h : ∃ p ∈ ts, b = p.2
      · exact .inl ⟨h, Option.some.inj (z.symm.trans (if_pos h))⟩
      · have z := (if_neg h).symm.trans z
        by_cases h2 : b = a
        · exact .inr ⟨h2, _, _, Option.some.inj (z.symm.trans (if_pos h2))⟩
        · cases (if_neg h2).symm.trans z
    · by_cases h : ∃ p ∈ ts, b = p.2
      · cases (if_pos h).symm.trans z
        obtain ⟨p, hp, rfl⟩ := h
        exact tO p hp _
      · have z := (if_neg h).symm.trans z
        by_cases h2 : b = a
        · cases (if_pos h2).symm.trans z
          subst h2
          exact ⟨sc, by rw [List.length_map]; exact hl, vs, _, vals_ints hi, sc⟩
        · cases (if_neg h2).symm.trans z
theorem walkGTs {l : PySem.W.OpenLaw} {n k : Nat} {q : Program} {loose : List Str} {XP : (Str → Option Value) → Heap → Prop} {YP : World → Heap → Prop} {d : DefRec} {x : Str}
    (hn : l.most = some n) (hn2 : n ≤ sizeLine) (hdf : d.params.defaults = []) (hr : Room k callerA)
    (F : ∀ (w : World) (mg : Str → Option Value) (fa : Addr) (h : Heap), YP w h → h.Ns mainGlobals mg → mg d.name = some (.ref fa) →
      ∃ (K : PySem.W.Frag) (fd : FuncData) (sp : Sp) (ts : List (Addr × Addr)), K.In h ∧ (∀ p ∈ ts, h.get? p.2 = some { cls := .none, data := .fields #[] }) ∧ (∀ p ∈ ts, K.lookup p.2 = none) ∧ (∀ p ∈ ts, PySem.W.codeHdIn K p.1 p.2 = true) ∧ (∀ (s : Shared) (u : Value), BindsTo s fd ⟨[u], []⟩ [(x, u)]) ∧
        (∀ (H : Hp) (a : Addr) (ns : List Int), ns.length ≤ n → (∀ p ∈ ts, H p.2 = some (.tbl #[])) → SqL K H a (ns.map V.int) → sp [.ref a] H (fun v _ => v = .bl true) fun _ _ _ => False) ∧
        ∀ base : Heap, K.In base → base.Ns mainGlobals mg → (∀ p ∈ ts, LamX.TabB base mg p.1 p.2) → DZ.FnG l.prog w K mg base CX0 k fa fd [x] sp) :
    PySem.W.WalkO q loose XP YP l.row.toRowW d [] (fun f vs => PySem.call f vs) := by
  refine Att.attach_call hn hdf fun w s₀ s₁ mg mb fa o pm cd doc a vs ns G Y ho hd hcd hmg hobj hints hlen hg => ?_
  obtain ⟨K, fd, sp, ts, KX, t1, t2, t3, hb, hsp, hF⟩ := F w mg fa _ Y G.T.g hmg
  exact law_callGTs KX G.T.g G.T.b G.T.builtins G.T.nolimit hg t1 t2 t3 G.T.bmain hobj hints (Nat.le_trans hlen hn2) hr hF hb fun H hH hS => hsp H a ns hlen hH hS
/-! ### exceptions of the program -/
/-- a class over others over ValueError with an __init__ of its own: its name, its one field, the def -/
structure XcD where
  x : Str
  f : Str
  params : Arguments
  body : List Stmt
  scope : Scope
/-- the j-th row of a class -/
def clsB : Stmt → Nat → Stmt
  | .ClassDef (body := b) .., j => b.getD j (.Pass ⟨0, 0, 0, 0⟩)
  | s, _ => s
abbrev XcV : Type := Option (Str × Arguments × FuncBody × Scope)
def xcA (K : PySem.W.Frag) (x : Str) : Addr := He.ma K (He.ga K x) "__init__"
def xcObs (K : PySem.W.Frag) (x : Str) : XcV := match K.lookup (xcA K x) with
  | some ⟨_, _, .func fd, _⟩ => some (fd.name, fd.params, fd.body, fd.scope)
  | _ => none
def XcD.val (d : XcD) : XcV := some (("__init__" : Str), d.params, FuncBody.stmts d.body, d.scope)
def xcCls (K : PySem.W.Frag) (C : Addr) : Bool := match K.lookup C with
  | some ⟨.type "type", _, .cls cd, sl⟩ => (match cd.mro, sl.toList with
    | .ref C' :: bm, [_, _, _, _, some (.builtin n), _] => decide (C' = C) && (decide (n = "ValueError.__new__") && (cd.hasDict && (!cd.hasDel && PySem.HandSPX.refsVE bm)))
    | _, _ => false)
  | _ => false
theorem xcCls_ok {K : PySem.W.Frag} {C : Addr} (h : xcCls K C = true) : ∃ nm q N bs bm sn sub ab col dd k0 k1 k2 k3 k5, K.lookup C = some (excClassObj nm q C N bs bm true sn sub ab col dd k0 k1 k2 k3 k5 "ValueError.__new__") ∧ PySem.HandSPX.refsVE bm = true := by
  unfold xcCls at h
  split at h
  · rename_i dd cd sl ho
    split at h
    · rename_i C' bm k0 k1 k2 k3 n k5 hm hs
      simp only [Bool.and_eq_true, decide_eq_true_eq, Bool.not_eq_true'] at h
      obtain ⟨rfl, rfl, h1, h2, h3⟩ := h
      obtain ⟨nm, bs, mro, ns, qn, hd, sn, sub, ab, col, del⟩ := cd
      dsimp only at hm h1 h2
      subst hm h1 h2
      have hsl : sl = #[k0, k1, k2, k3, some (.builtin "ValueError.__new__"), k5] := by
        obtain ⟨l⟩ := sl
        simp only at hs
        rw [hs]
      subst hsl
      exact ⟨nm, qn, ns, bs, bm, sn, sub, ab, col, dd, k0, k1, k2, k3, k5, ho, h3⟩
    · cases h
  · cases h
def xcFn (K : PySem.W.Frag) (file : Str) (C fI : Addr) : Bool := match K.lookup fI with
  | some ⟨_, _, .func fd, _⟩ => (match fd.defaults with
    | .none => true
    | _ => false) && (decide (fd.globals = mainGlobals) && (decide (fd.builtins = builtinsNs) && (PySem.W.codeIn K fd.code fd.qualname && ((match fd.closure with
    | [(cn, cc)] => decide (cn = "__class__") && (match K.lookup cc with
      | some ⟨_, _, .cell (some (.ref C')), _⟩ => decide (C' = C)
      | _ => false)
    | _ => false) && (match fd.code with
    | .ref cda => (match K.lookup cda with
      | some ⟨_, _, .fields vs, _⟩ => (match (vs[2]? : Option Value) with
        | some (Value.str fl _) => decide (fl = file)
        | _ => false)
      | _ => false)
    | _ => false)))))
  | _ => false
open PySem.W in
theorem xcFn_ok {K : PySem.W.Frag} {file : Str} {C : Addr} {d : XcD} (h : xcFn K file C (xcA K d.x) = true) (e : xcObs K d.x = d.val) : ∃ fd oc od osl qual kV doc pm an cda ct cc, K.lookup (xcA K d.x) = some ⟨oc, od, .func fd, osl⟩ ∧ fd = ksFn "__init__" qual d.params d.body d.scope .none kV doc pm an (.ref cda) ct cc ∧ codeIn K (.ref cda) qual = true ∧
    (∃ ccl cdd vs ccs fl tf, K.lookup cda = some ⟨ccl, cdd, .fields vs, ccs⟩ ∧ vs[2]? = some (.str fl tf) ∧ fl = file) ∧ ∃ cl cld csl, K.lookup cc = some ⟨cl, cld, .cell (some (.ref C)), csl⟩ := by
  unfold xcFn at h
  unfold xcObs at e
  split at h
  · rename_i oc od fd osl ho
    rw [ho] at e
    obtain ⟨n1, n2, n3, n4, n5, n6, n7, n8, n9, n10, n11, n12, n13, n14, n15⟩ := fd
    have e2 : (some (n1, n3, n4, n5) : XcV) = some (("__init__" : Str), d.params, FuncBody.stmts d.body, d.scope) := e
    simp only [Option.some.injEq, Prod.mk.injEq] at e2
    obtain ⟨h1, h2, h3, h4⟩ := e2
    subst h1 h2 h3 h4
    simp only [Bool.and_eq_true, decide_eq_true_eq] at h
    obtain ⟨k0, rfl, rfl, k3, k4, k5⟩ := h
    split at k0
    rotate_left
    · cases k0
    split at k4
    · rename_i cn cc
      simp only [Bool.and_eq_true, decide_eq_true_eq] at k4
      obtain ⟨rfl, k4⟩ := k4
      split at k4
      · rename_i cl cld C' csl hcc
        have k4 := of_decide_eq_true k4
        subst k4
        split at k5
        · rename_i cda
          split at k5
          · rename_i ccl cdd vs ccs hv
            split at k5
            · rename_i fl tf hfl
              exact ⟨_, oc, od, osl, n2, n9, n10, n11, n12, cda, n14, cc, ho, rfl, k3, ⟨ccl, cdd, vs, ccs, fl, tf, hv, hfl, of_decide_eq_true k5⟩, cl, cld, csl, hcc⟩
            · cases k5
          · cases k5
        · cases k5
      · cases k4
    · cases k4
  · cases h
def xcB (K : PySem.W.Frag) (file x f : Str) : Bool :=
  xcCls K (He.ga K x) && (xcFn K file (He.ga K x) (xcA K x) && (He.eqO (PySem.W.findIn K (.ref (He.ga K x)) "__setattr__") (some (some (.builtin "object.__setattr__"))) && (decide (PySem.W.subIn K (.ref (He.ga K x)) (.type "BaseException") = some true) && (decide (PySem.W.typeIn K (.ref (He.ga K x)) = some (.type "type")) && (PySem.W.keepIn K (.ref (He.ga K x)) &&
  (He.eqO (PySem.W.findIn K (.ref (He.ga K x)) "__init__") (some (some (.ref (xcA K x)))) && (decide (PySem.W.typeIn K (.ref (xcA K x)) = some (.type "function")) && (decide (PySem.W.subIn K (.ref (He.ga K x)) (.type "ValueError") = some true) && (decide (PySem.W.mroIn K (He.ga K x) (.ref (He.ga K x)) = some true) &&
  (He.eqO (PySem.W.ks_superIn K (He.ga K x) (He.ga K x) "__init__") (some (some (.builtin "ValueError.__init__"))) && (He.eqO (PySem.W.nsIn K cStatics "thirdparty.any") (some none) && He.eqO (PySem.W.findIn K (.ref (He.ga K x)) f) (some none))))))))))))
open PySem.W in
theorem xcB_ok {P : Program} {K : PySem.W.Frag} {file : Str} {d : XcD} (h : xcB K file d.x d.f = true) (e : xcObs K d.x = d.val) (hf : P.main.file = file) (ht : (P.main.scope.names.lookup ("super" : Str)).isSome = false) :
    ∃ fd, (∃ qual kV doc pm an cda ct cc, fd = ksFn "__init__" qual d.params d.body d.scope .none kV doc pm an (.ref cda) ct cc) ∧ DXE.ExcI P K (He.ga K d.x) (xcA K d.x) d.params d.body d.scope fd ∧ findIn K (.ref (He.ga K d.x)) d.f = some none := by
  unfold xcB at h
  simp only [Bool.and_eq_true, decide_eq_true_eq] at h
  obtain ⟨h1, h2, h3, h4, h5, h6, h7, h8, h9, h10, h11, h12, h13⟩ := h
  obtain ⟨fd, oc, od, osl, qual, kV, doc, pm, an, cda, ct, cc, g1, g2, g3, ⟨ccl, cdd, vs, ccs, fl, tf, g4, g5, g6⟩, g7⟩ := xcFn_ok h2 e
  exact ⟨fd, ⟨qual, kV, doc, pm, an, cda, ct, cc, g2⟩, ⟨⟨xcCls_ok h1, He.eqO_ok h3, h4, h5, h6⟩, He.eqO_ok h7, h8, ⟨oc, od, osl, _, qual, .none, kV, doc, pm, an, cda, ct, cc, g1, g2, g3, ⟨ccl, cdd, vs, ccs, fl, tf, g4, g5, by rw [hf, g6]; exact beq_self_eq_true _⟩, g7⟩, h9, h10, He.eqO_ok h11, He.eqO_ok h12, ht⟩, He.eqO_ok h13⟩
section
variable {P : Program} {w : World} {K : PySem.W.Frag} {mg : Str → Option Value} {base : Heap} {file : Str} {d : XcD} {sf n : Str} {p0 p1 p2 p3 p4 p5 p6 p7 p8 p9 : Pos}
open PySem.W in
theorem rz_of (hf : P.main.file = file) (ht : (P.main.scope.names.lookup ("super" : Str)).isSome = false) (hms : mg "super" = none) (hmx : mg d.x = some (.ref (He.ga K d.x))) (h : xcB K file d.x d.f = true) (e : xcObs K d.x = d.val)
    (hb : d.body = DXE.initB sf n d.f p0 p1 p2 p3 p4 p5 p6 p7 p8 p9) (hce : DXE.CallE n p0 p1 p2 p3 p4) (hp : (d.params.posonlyargs ++ d.params.args).head?.map (·.arg) = some sf)
    (hbi : ∀ (q : Str) (kV doc pm : Value) (an : Option Addr) (cdv ct : Value) (cc : Addr) (us : List Value), us.length = 2 → bindArgs (ksFn "__init__" q d.params d.body d.scope .none kV doc pm an cdv ct cc) ⟨us, []⟩ = pure ([sf, n].zip us))
    (hks : d.scope.names.lookup ("super" : Str) = some .globalImplicit) (hkc : d.scope.names.lookup ("__class__" : Str) = some .free) (hka : d.scope.names.lookup sf = some .local) (hkn : d.scope.names.lookup n = some .local) (hk : d.scope.kind = .function) (hcell : ∀ x ∈ d.scope.names, x.2 ≠ .cell)
    (hco : d.scope.isCoroutine = false) (hgen : d.scope.isGenerator = false) (hsn : sf ≠ n) (hd1 : (sf == ("__debug__" : Str)) = false) (hd2 : (n == ("__debug__" : Str)) = false) : RzC P w K mg base d.x d.f := by
  obtain ⟨fd, ⟨qual, kV, doc, pm, an, cda, ct, cc, g2⟩, T, hno⟩ := xcB_ok h e hf ht
  have hbn : L2.Binds K fd [sf, n] [] := by
    rw [g2]
    exact L2.Binds.all fun us hl => hbi _ _ _ _ _ _ _ _ us hl
  rw [hb] at T
  exact ⟨_, _, fd, sf, n, hmx, T.oex, T.iC, T.tI, hbn, DXE.init_fn hce T hms hno hp hks hkc hka hkn hk hcell hco hgen hsn hd1 hd2⟩
end
/-! ### the def that tells -/
/-! ### defs that may raise, of other families -/
/-! ### the hook -/
def asZ (g : Addr → Option Obj) (n : Nat) : List Addr := He.asD g n ++ [cStatics]
def frZ (g : Addr → Option Obj) (n : Nat) : PySem.W.Frag := He.frT g (asZ g n)
structure SaysZ (fa : List He.Fa) (fn : List He.DefD) (tb : List (Str × List D)) (ps : List He.Defn) (xs : List XcD) (ex : PySem.W.Frag → Bool) (file : Str) (h : Heap) (K : PySem.W.Frag) : Prop where
  e : SaysE fa fn tb K
  hd : ∀ p ∈ ps, PySem.W.codeHdIn K (He.cT K p).1 (He.cT K p).2 = true
  out : ∀ p ∈ ps, K.lookup (He.cT K p).2 = none
  empty : ∀ p ∈ ps, h.get? (He.cT K p).2 = some { cls := .none, data := .fields #[] }
  nd : (ps.map fun p => (He.cT K p).2).Nodup
  xo : ∀ d ∈ xs, xcObs K d.x = d.val ∧ xcB K file d.x d.f = true
  ex : ex K = true
def extraZ (g : Addr → Option Obj) (ps : List He.Defn) (xs : List XcD) (ex : PySem.W.Frag → Bool) (file : Str) (K : PySem.W.Frag) : Bool :=
  (ps.all fun p => PySem.W.codeHdIn K (He.cT K p).1 (He.cT K p).2 && (match g (He.cT K p).2 with
    | some o => He.emptyTab o
    | none => false)) && (decide (ps.map fun p => (He.cT K p).2).Nodup && ((xs.all fun d => xcB K file d.x d.f) && ex K))
abbrev AlZ : Type := ((He.AlD × Bool) × List XcV) × Bool
def obsZ (n : Nat) (fa : List He.Fa) (fn : List He.DefD) (tb : List (Str × List D)) (ps : List He.Defn) (xs : List XcD) (ex : PySem.W.Frag → Bool) (file : Str) (g : Addr → Option Obj) : AlZ :=
  ((obsE fa fn tb (frZ g n), xs.map fun d => xcObs (frZ g n) d.x), extraZ g ps xs ex file (frZ g n))
theorem saysZ_of {n : Nat} {fa : List He.Fa} {fn : List He.DefD} {tb : List (Str × List D)} {ps : List He.Defn} {xs : List XcD} {ex : PySem.W.Frag → Bool} {file : Str} {h : Heap} (e : obsZ n fa fn tb ps xs ex file h.get? = (((He.valD fn, true), xs.map XcD.val), true)) : SaysZ fa fn tb ps xs ex file h (frZ h.get? n) := by
  have e1 : obsE fa fn tb (frZ h.get? n) = (He.valD fn, true) := congrArg (fun z : AlZ => z.1.1) e
  have e2 : xs.map (fun d => xcObs (frZ h.get? n) d.x) = xs.map XcD.val := congrArg (fun z : AlZ => z.1.2) e
  have e3 : extraZ h.get? ps xs ex file (frZ h.get? n) = true := congrArg (fun z : AlZ => z.2) e
  unfold extraZ at e3
  rw [Bool.and_eq_true, Bool.and_eq_true, Bool.and_eq_true] at e3
  obtain ⟨e4, e5, e6, e7⟩ := e3
  have key : ∀ p ∈ ps, PySem.W.codeHdIn (frZ h.get? n) (He.cT (frZ h.get? n) p).1 (He.cT (frZ h.get? n) p).2 = true ∧ ∃ o, h.get? (He.cT (frZ h.get? n) p).2 = some o ∧ He.emptyTab o = true := fun p hp => by
    have z := List.all_eq_true.mp e4 p hp
    rw [Bool.and_eq_true] at z
    refine ⟨z.1, ?_⟩
    have z2 := z.2
    split at z2
    · rename_i o ho
      exact ⟨o, ho, z2⟩
    · cases z2
  refine ⟨e1, fun p hp => (key p hp).1, fun p hp => ?_, fun p hp => ?_, of_decide_eq_true e5, fun d hd => ⟨?_, List.all_eq_true.mp e6 d hd⟩, e7⟩
  · obtain ⟨_, o, h1, h2⟩ := key p hp
    exact He.frT_none h1 h2
  · obtain ⟨_, o, h1, h2⟩ := key p hp
    rw [h1, He.emptyTab_eq h2]
  · obtain ⟨i, hi, ei⟩ := List.mem_iff_getElem.mp hd
    have e8 : (xs.map fun d => xcObs (frZ h.get? n) d.x)[i]? = (xs.map XcD.val)[i]? := by rw [e2]
    rw [List.getElem?_map, List.getElem?_map, List.getElem?_eq_getElem hi, ei] at e8
    exact Option.some.inj e8
def hookZ (n : Nat) (fa : List He.Fa) (fn : List He.DefD) (tb : List (Str × List D)) (ps : List He.Defn) (xs : List XcD) (ex : PySem.W.Frag → Bool) (file : Str) : PySem.W.Hook where
  α := AlZ
  obs := fun s => obsZ n fa fn tb ps xs ex file s.heap.get?
  val := fun _ => (((He.valD fn, true), xs.map XcD.val), true)
  says := fun _ h => ∃ K : PySem.W.Frag, K.In h ∧ SaysZ fa fn tb ps xs ex file h K
  of := fun _ _ e => ⟨_, He.frT_in, saysZ_of e⟩
  keeps := fun _ _ _ ⟨K, hK, c⟩ k => ⟨K, PySem.W.Frag.In.keeps hK k, ⟨c.e, c.hd, c.out, fun p hp => k _ _ (c.empty p hp), c.nd, c.xo, c.ex⟩⟩
theorem obsZ_eq {n : Nat} {fa : List He.Fa} {fn : List He.DefD} {tb : List (Str × List D)} {ps : List He.Defn} {xs : List XcD} {ex : PySem.W.Frag → Bool} {file : Str} {g : Addr → Option Obj} {s : Shared} (h : ∀ a, g a = s.heap.get? a) : obsZ n fa fn tb ps xs ex file g = (hookZ n fa fn tb ps xs ex file).obs s := by
  have e : g = s.heap.get? := funext h
  rw [e] <;> rfl
end DL
/-! DX20: zip of a text and a list. -/
/-! DL71: zip of a text and a list. -/
namespace DL
open PySem PySem.Spec PyProof.Rows L2
end DL
/-! DL72: a, b, c = x, y, z with plain local names. -/
namespace DL
open PySem PySem.Spec PyProof.Rows L2
end DL
/-! DL76: a, b = .., calls by names, tuples, defs that call themselves: what may raise. -/
namespace DL
open PySem PySem.Spec PyProof.Rows L2
end DL
/-! DX23: a comprehension with three clauses (printed by mkdx23.py). -/
namespace L2
open PySem PySem.Spec PyProof.Rows
end L2
/-! DL77: a comprehension with three clauses, by the slots (printed by mkdl77.py). -/
namespace DL
open PySem PySem.Spec PyProof.Rows L2
end DL
/-! DL78: max(x, default=d); tuple(range(a, b)); x, y = e, e2 that may raise, as one name is a cell. -/
namespace DL
open PySem PySem.Spec PyProof.Rows L2
end DL
/-! DX24: dict(zip(a, b)) of a list and a tuple (printed by mkdx24.py). -/
/-! DL79: dict(zip(a, b)) of a list and a tuple. -/
namespace DL
open PySem PySem.Spec PyProof.Rows L2
end DL
/-! DL80: a lambda made within a comprehension. -/
namespace DL
open PySem PySem.Spec PyProof.Rows L2
end DL
/-! DL81: the numbered things of the world: new ones, their fields, lists. -/
namespace DL
open PySem PySem.Spec PyProof.Rows L2
/-- one more numbered thing -/
def addOb (P : PM) (n : Nat) (a : Addr) : PM := ⟨P.hp, fun m => if m = n then some a else P.ob m⟩
theorem addOb_at {P : PM} {n : Nat} {a : Addr} : (addOb P n a).ob n = some a := if_pos rfl
theorem addOb_ne {P : PM} {n m : Nat} {a : Addr} (h : m ≠ n) : (addOb P n a).ob m = P.ob m := if_neg h
theorem SubP.add {P : PM} {n : Nat} {a : Addr} (h : P.ob n = none) : SubP P (addOb P n a) := ⟨Sub.refl _, fun m b e => by rw [addOb_ne fun z => by rw [z, h] at e; cases e]; exact e⟩
/-- the things of the world -/
theorem obs_of {pw : WP} {W : Wd Dk} {g : Dk} {P : PM} {H : Hp} (hW : DF pw W) (h : W.holds g P H) : ∃ far, ObsOk pw W.ref far P H g.objs ∧ (∀ a, far a → W.fp P.ob a) ∧ (∀ ob a, W.fp ob a ↔ far a ∨ ∃ n, ob n = some a) ∧
    ∀ (g' : Dk) (P' : PM) (H' : Hp), g'.big = g.big → g'.cells = g.cells → g'.turn = g.turn → g'.loan = g.loan → (∀ a, far a → H' a = H a) → (∀ a o, H a = some o → Cod o → H' a = some o) → ObsOk pw W.ref far P' H' g'.objs → W.holds g' P' H' := by
  obtain ⟨T, a0, a1, a2, h01, h02, h12, hT, la, hla, rfl⟩ := hW
  refine ⟨_, h.2.2.2.2.2.2.2, fun a ha => ?_, fun ob a => ?_, fun g' P' H' e1 e2 e3 e4 e k hb => ?_⟩
  · rcases ha with h | h | h | h | h
    · exact .inl h
    · exact .inr (.inl h)
    · exact .inr (.inr (.inl h))
    · exact .inr (.inr (.inr (.inl h)))
    · exact .inr (.inr (.inr (.inr (.inl h))))
  · constructor
    · rintro (h | h | h | h | h | h)
      · exact .inl (.inl h)
      · exact .inl (.inr (.inl h))
      · exact .inl (.inr (.inr (.inl h)))
      · exact .inl (.inr (.inr (.inr (.inl h))))
      · exact .inl (.inr (.inr (.inr (.inr h))))
      · exact .inr h
    · rintro ((h | h | h | h | h) | h)
      · exact .inl h
      · exact .inr (.inl h)
      · exact .inr (.inr (.inl h))
      · exact .inr (.inr (.inr (.inl h)))
      · exact .inr (.inr (.inr (.inr (.inl h))))
      · exact .inr (.inr (.inr (.inr (.inr h))))
  · obtain ⟨w0, w1, w2, z1, z2, tb, lo, _⟩ := h
    refine ⟨by rw [e a0 (.inl rfl), e3]; exact w0, by rw [e a1 (.inr (.inl rfl)), e1]; exact w1, by rw [e a2 (.inr (.inr (.inl rfl))), e2]; exact w2, by rw [e1]; exact z1, by rw [e2]; exact z2, tabs_keep tb (fun p hp => e _ (.inr (.inr (.inr (.inl ⟨p, hp, rfl⟩))))) k, ?_, hb⟩
    rw [e4]
    exact lo.keep fun a ha => e a (.inr (.inr (.inr (.inr ha))))
theorem ObOk.reps {p : WP} {W : Wd Dk} (hp : W.pw = p.pw) {P : PM} {ds : List D} {xs : List V} : Reps p.K (plainW Dk p.pw W.ref) P ds xs ↔ Reps p.K W P ds xs := ⟨reps_w (W := plainW Dk p.pw W.ref) (W' := W) rfl hp.symm ds xs, reps_w (W := W) (W' := plainW Dk p.pw W.ref) rfl hp ds xs⟩
/-- what a numbered thing is in a world -/
def ObIs (p : WP) (W : Wd Dk) (P : PM) (H : Hp) (a : Addr) : Ob → Prop
  | .ins fs => ∃ dx xs, H a = some (.ins p.lc dx ((fs.map (·.1)).zip xs)) ∧ Reps p.K W P (fs.map (·.2)) xs
  | .lst ds => ∃ xs, H a = some (.lst xs) ∧ ds.length ≤ sizeLine ∧ Reps p.K W P ds xs
  | .exc C (some k) => ∃ d, P.ob (k + 4) = some d ∧ H a = some (exo a (He.ga p.K C) (some d))
  | .exc C none => H a = some (exo a (He.ga p.K C) none)
  | .xd f x => ∃ v, H a = some (exd a [(f, v)]) ∧ Rep p.K W P x v
theorem ObOk.rep1 {p : WP} {W : Wd Dk} (hp : W.pw = p.pw) {P : PM} {d : D} {v : V} : Rep p.K (plainW Dk p.pw W.ref) P d v ↔ Rep p.K W P d v := ⟨rep_w (W := plainW Dk p.pw W.ref) (W' := W) rfl hp.symm d v, rep_w (W := W) (W' := plainW Dk p.pw W.ref) rfl hp d v⟩
theorem ObOk.is {p : WP} {W : Wd Dk} (hp : W.pw = p.pw) {P : PM} {H : Hp} {a : Addr} {x : Ob} : ObOk p W.ref P H a x ↔ ObIs p W P H a x := by
  cases x with
  | ins fs => exact ⟨fun ⟨dx, xs, e, r⟩ => ⟨dx, xs, e, (ObOk.reps hp).mp r⟩, fun ⟨dx, xs, e, r⟩ => ⟨dx, xs, e, (ObOk.reps hp).mpr r⟩⟩
  | lst ds => exact ⟨fun ⟨xs, e, z, r⟩ => ⟨xs, e, z, (ObOk.reps hp).mp r⟩, fun ⟨xs, e, z, r⟩ => ⟨xs, e, z, (ObOk.reps hp).mpr r⟩⟩
  | exc C k => cases k <;> exact Iff.rfl
  | xd f x => exact ⟨fun ⟨v, e, r⟩ => ⟨v, e, (ObOk.rep1 hp).mp r⟩, fun ⟨v, e, r⟩ => ⟨v, e, (ObOk.rep1 hp).mpr r⟩⟩
theorem cod_ins {C dx : Addr} {fs : List (Str × V)} : ¬ Cod (.ins C dx fs) := fun ⟨c, q, e⟩ => by unfold LamX.CodeO at e; cases e
def isIL : Ob → Bool
  | .ins _ => true
  | .lst _ => true
  | _ => false
theorem ObIs.cod {p : WP} {W : Wd Dk} {P : PM} {H : Hp} {a : Addr} {x : Ob} (h : ObIs p W P H a x) (hil : isIL x = true) : ∀ o, H a = some o → ¬ Cod o := fun o e => by
  cases x with
  | ins fs => obtain ⟨dx, xs, e2, _⟩ := h; rw [e] at e2; cases e2; exact cod_ins
  | lst ds => obtain ⟨xs, e2, _⟩ := h; rw [e] at e2; cases e2; exact cod_lst
  | exc C k => cases hil
  | xd f x => cases hil
/-- a numbered thing is at hand -/
theorem ob_at {pw : WP} {W : Wd Dk} {g : Dk} {P : PM} {H : Hp} {n : Nat} {v : V} {x : Ob} (hW : DF pw W) (h : W.holds g P H) (hv : Rep pw.K W P (.obj (n + 4)) v) (hx : g.objs[n]? = some x) : ∃ a, v = .ref a ∧ P.ob (n + 4) = some a ∧ ObIs pw W P H a x ∧ W.fp P.ob a := by
  obtain ⟨far, ob, _, hfp, _⟩ := obs_of hW h
  rw [rep_objN] at hv
  obtain ⟨a, ea, rfl⟩ := hv
  obtain ⟨i, y, ei, ey, q⟩ := ob.at_ ea
  have : i = n := by omega
  subst this
  rw [hx] at ey; cases ey
  exact ⟨a, rfl, ea, (ObOk.is (pwDF hW)).mp q, (hfp _ _).mpr (.inr ⟨_, ea⟩)⟩
section
variable {pw : WP} {K : PySem.W.Frag} {W : Wd Dk} {P₀ P : PM} {H₀ H : Hp} {O : Addr → Option Tag} {σ : L2.St} {st : Sl} {τ : List V} {ts : List S} {g : Dk} {v : V} {s : S} {d : D}
/-- a new numbered thing at a free place -/
theorem RelB.newOb {p : Addr} {o : HO} {y : Ob} (hW : DF pw W) (R : RelB K W P₀ H₀ P O σ st τ ts H g) (hp : H p = none) (hy : ObIs pw W P (upd H p o) p y) :
    RelB K W P₀ H₀ (addOb P (g.objs.length + 4) p) O σ st τ ts (upd H p o) { g with objs := g.objs ++ [y] } := by
  obtain ⟨far, ob, hfar, hfp, mk⟩ := obs_of hW R.wld
  have on : P.ob (g.objs.length + 4) = none := ob.end_ _ (by rw [List.getElem?_eq_none_iff]; omega)
  have sP : SubP P (addOb P (g.objs.length + 4) p) := SubP.add on
  have sH : Sub H (upd H p o) := fun a u e => by rw [upd_ne (ne_of_none e hp)]; exact e
  have nf : ¬ W.fp P.ob p := fun h => W.there g P H p R.wld h hp
  have h0 : H₀ p = none := by
    cases q : H₀ p with
    | none => rfl
    | some u => have := R.base p u q nf; rw [hp] at this; cases this
  have fpi : ∀ b, W.fp (addOb P (g.objs.length + 4) p).ob b → W.fp P.ob b ∨ b = p := fun b hb => by
    rcases (hfp _ _).mp hb with h | ⟨n, h⟩
    · exact .inl ((hfp _ _).mpr (.inl h))
    · by_cases e : n = g.objs.length + 4
      · subst e; rw [addOb_at] at h; cases h; exact .inr rfl
      · rw [addOb_ne e] at h; exact .inl ((hfp _ _).mpr (.inr ⟨n, h⟩))
  have nm : ∀ b, ¬ W.fp (addOb P (g.objs.length + 4) p).ob b → ¬ W.fp P.ob b := fun b h z => h (W.mono _ _ b sP.2 z)
  refine ⟨fun a u e => sH _ _ (R.sub a u e), fun a u e n => sH _ _ (R.base a u e (nm a n)), R.p0.trans sP, R.new, fun a e h => ?_, fun a e => ?_, fun a t e => ?_, ?_, R.len, fun i s e => ?_, ?_⟩
  · rcases fpi a h with h | h
    · exact R.nfp a e h
    · subst h; exact e (R.pn hp)
  · rcases fpi a e with h | h
    · exact R.fpn a h
    · subst h; exact .inr h0
  · obtain ⟨h1, h2, h3, h4⟩ := R.own a t e
    have ne : a ≠ p := fun q => h4 (q ▸ hp)
    refine ⟨h1, h2, fun h => ?_, by rw [upd_ne ne]; exact h4⟩
    rcases fpi a h with h | h
    · exact h3 h
    · exact ne h
  · refine mk _ _ _ rfl rfl rfl rfl (fun a ha => upd_ne fun e => nf (e ▸ hfar a ha)) (keep_new hp) ⟨fun n hn => ?_, fun i x hx => ?_, fun i hi => ?_, fun n m a e1 e2 => ?_, fun n a e => ?_⟩
    · rw [addOb_ne (by omega)]; exact ob.low n hn
    · by_cases hi : i < g.objs.length
      · rw [List.getElem?_append_left hi] at hx
        obtain ⟨a, ea, q⟩ := ob.one i x hx
        exact ⟨a, by rw [addOb_ne (by omega)]; exact ea, q.keep sP.le sP.2 fun o' z => sH _ _ z⟩
      · have : i = g.objs.length := by
          have := (List.getElem?_eq_some_iff.mp hx).1
          simp at this; omega
        subst this
        simp at hx
        subst hx
        refine ⟨p, addOb_at, (ObOk.is (pwDF hW)).mpr ?_⟩
        cases y with
        | ins fs => obtain ⟨dx, xs, e, r⟩ := hy; exact ⟨dx, xs, e, Reps.mono sP _ _ r⟩
        | lst ds => obtain ⟨xs, e, z, r⟩ := hy; exact ⟨xs, e, z, Reps.mono sP _ _ r⟩
        | exc C k =>
          cases k with
          | none => exact hy
          | some k => obtain ⟨d, e1, e2⟩ := hy; exact ⟨d, sP.2 _ _ e1, e2⟩
        | xd f x => obtain ⟨v, e, r⟩ := hy; exact ⟨v, e, Rep.mono sP _ _ r⟩
    · rw [List.getElem?_eq_none_iff] at hi
      simp at hi
      rw [addOb_ne (by omega)]
      exact ob.end_ i (by rw [List.getElem?_eq_none_iff]; omega)
    · have nop : ∀ k, P.ob k ≠ some p := fun k z => nf ((hfp _ _).mpr (.inr ⟨k, z⟩))
      by_cases z1 : n = g.objs.length + 4 <;> by_cases z2 : m = g.objs.length + 4
      · rw [z1, z2]
      · subst z1; rw [addOb_at] at e1; cases e1; rw [addOb_ne z2] at e2; exact absurd e2 (nop m)
      · subst z2; rw [addOb_at] at e2; cases e2; rw [addOb_ne z1] at e1; exact absurd e1 (nop n)
      · rw [addOb_ne z1] at e1; rw [addOb_ne z2] at e2; exact ob.inj n m a e1 e2
    · by_cases z : n = g.objs.length + 4
      · subst z; rw [addOb_at] at e; cases e; exact fun h => nf (hfar _ h)
      · rw [addOb_ne z] at e; exact ob.far n a e
  · obtain ⟨v, e1, e2, q⟩ := R.slots i s e
    exact ⟨v, e1, e2, q.mono sP (fun _ z => z) fun a u _ z => sH _ _ z⟩
  · exact R.temps.mono sP (fun _ _ _ z => z) fun a u _ _ _ z => sH _ _ z
end
end DL
/-! DL82: fields of numbered things are read and set. -/
namespace DL
open PySem PySem.Spec PyProof.Rows L2
/-- the number of a numbered thing -/
def numO : S → Option Nat
  | .sh (.obj (n + 4)) => some n
  | _ => none
theorem numO_eq {s : S} {n : Nat} (h : numO s = some n) : s = .sh (.obj (n + 4)) := by
  unfold numO at h
  split at h
  · cases h; rfl
  · cases h
end DL
/-! DL83: methods, properties, new instances. -/
namespace DL
open PySem PySem.Spec PyProof.Rows L2
end DL
/-! DL84: defs of a class, len of an instance, numbered lists, raise C(). -/
namespace DL
open PySem PySem.Spec PyProof.Rows L2
/-! ### defs of a class -/
end DL
/-! DX25: an exception class of the program whose __init__ says super().__init__() alone. -/
namespace DXE
open PySem PySem.Spec PySem.Calls PyProof.Rows L2 PySem.W
section
variable {P : Program} {w : World} {K : Frag} {C fI : Addr} {params : Arguments} {scope : Scope} {fd : FuncData} {A : Around} {s : Shared} {R : Result → Shared → Prop} {x t0 : Addr} {sf : Str} {mg mb : Str → Option Value} {args : Args}
variable {p0 p1 p2 p4 p5 : Pos}
abbrev initB0 (p0 p1 p2 p4 p5 : Pos) : List Stmt :=
  [.Expr (.Call (.Attribute (.Call (.Name "super" p0) [] [] p1) "__init__" p2) [] [] p4) p5]
/-- the positions of the two rows are plain -/
abbrev CallE0 (p0 p1 p2 p4 : Pos) : Prop := ∀ env : Env, eval (.Call (.Attribute (.Call (.Name "super" p0) [] [] p1) "__init__" p2) [] [] p4) env = (do
      let ov ← attributeBase (.Call (.Name "super" p0) [] [] p1) "__init__" env (eval (.Call (.Name "super" p0) [] [] p1) env)
      standAt p2.atName
      let (f, first) ← holding [ov] (getMethod ov "__init__" (do return (← importBound (.Call (.Name "super" p0) [] [] p1) env).getD true))
      callWith p4 f first (backTo p4 (starEach [] env)) [])
theorem init_run0 (hce : CallE0 p0 p1 p2 p4) (T : ExcI P K C fI params (initB0 p0 p1 p2 p4 p5) scope fd) (KX : K.In s.heap) (gl : s.heap.Ns mainGlobals mg) (hms : mg "super" = none) (bl : s.heap.Ns builtinsNs mb) (hmb : mb "super" = bootBuiltins "super") (nl : s.heap.NoLimit)
    (hroom : A.depth < recursionLimit) (hx : s.heap.get? x = some (HandSPX.excO C t0)) (hb : BindsTo s fd args [(sf, .ref x)]) (Kx : K.lookup x = none)
    (hp : (params.posonlyargs ++ params.args).head?.map (·.arg) = some sf)
    (hks : scope.names.lookup ("super" : Str) = some .globalImplicit) (hkc : scope.names.lookup ("__class__" : Str) = some .free) (hka : scope.names.lookup sf = some .local) (hk : scope.kind = .function) (hcell : ∀ x ∈ scope.names, x.2 ≠ .cell)
    (hco : scope.isCoroutine = false) (hgen : scope.isGenerator = false)
    (hR : ∀ h' tk t1, (∀ b o, b ≠ x → s.heap.get? b = some o → h'.get? b = some o) → h'.get? x = some (HandSPX.excO C t1) → R (.ok (.ret .none)) { s with heap := h', toks := tk }) :
    codeAny (model P w) A (.call (.ref fI) args) R s := by
  obtain ⟨skd, snames, sgn, sco, smore⟩ := scope
  dsimp only at hks hkc hka hk hcell hco hgen
  subst hk hco hgen
  obtain ⟨oc, od, osl, name, qual, dV, kV, doc, pm, an, cda, ct, cc, lk, rfl, hcd, ⟨ccl, cdd, vs, ccs, file, tf, hcode, hvs, hfile⟩, cl, cld, csl, hcl⟩ := T.fn
  obtain ⟨nm, q, N, bs, bm, sn, sub, ab, col, dd, k0, k1, k2, k3, k5, hC, hbm⟩ := T.oex.cls
  have hcls : clsIn K C = some { name := nm, bases := bs, mro := .ref C :: bm, ns := N, qualname := q, hasDict := true, slotNames := sn, subclasses := sub, abstract := ab, collection := col, hasDel := false } := by unfold clsIn; rw [hC] <;> rfl
  obtain ⟨ar, har, hae⟩ := Option.map_eq_some_iff.mp hp
  subst hae
  obtain ⟨hh, g, d, t, os⟩ := s
  refine ks_codeAny_call_defAt (fd := ksFn name qual params _ ⟨.function, snames, false, false, smore⟩ dV kV doc pm an (.ref cda) ct cc) (binds := [(ar.arg, .ref x)]) hroom (KX _ _ lk) rfl nl (codeRec_of KX hcd) rfl hb hcell (fun y hy => ?_) (fun h₁ hns hk₁ => ?_) rfl rfl rfl
  · rcases List.mem_cons.mp hy with rfl | hy
    · exact hka
    · cases hy
  have KX1 : K.In h₁ := KX.keeps hk₁
  have hx1 : h₁.get? x = some (HandSPX.excO C t0) := hk₁ _ _ hx
  have m1 : (fun y => ([(ar.arg, Value.ref x)] : List (Str × Value)).reverse.lookup y) ar.arg = some (.ref x) := by
    show ([(ar.arg, Value.ref x)] : List (Str × Value)).lookup ar.arg = _
    simp [List.lookup]
  generalize hL : hh.objs.size = L at hns ⊢
  have hCD : h₁.get? C = some (excClassObj nm q C N bs bm true sn sub ab col dd k0 k1 k2 k3 k5 "ValueError.__new__") := KX1 _ _ hC
  have envE : callEnv (ksFn name qual params (initB0 p0 p1 p2 p4 p5) ⟨.function, snames, false, false, smore⟩ dV kV doc pm an (.ref cda) ct cc) L fI = ksEnv qual ⟨.function, snames, false, false, smore⟩ L fI (.ref cda) cc := rfl
  rw [envE]
  -- super().__init__(n)
  refine ks_wpAt_execs_cons (ks_wpAt_Expr_any (ks_wpAt_MethodCall ?_ (hce _)))
  refine ks_wpAt_super_base (env := ksEnv qual ⟨.function, snames, false, false, smore⟩ L fI (.ref cda) cc) hks hkc (by decide) rfl (KX1 _ _ lk) rfl har rfl (KX1 _ _ hcode) rfl hvs hfile T.top ?_
  refine ks_loadName_global rfl hks (loadGlobal_builtin (env := ksEnv qual ⟨.function, snames, false, false, smore⟩ L fI (.ref cda) cc) (gl.keeps hk₁) hms (bl.keeps hk₁) (hmb.trans (by first | boot_by_name | rfl | kernel_rfl)) ⟨rfl, ?_⟩)
  refine wpAny_loadName_free rfl hkc rfl ⟨_, KX1 _ _ hcl, rfl⟩ ?_
  refine wpAny_loadName_local rfl hka hns m1 ?_
  refine ks_wpAny_isType_cls hCD rfl ⟨rfl, ?_⟩
  refine ks_wpAny_call_super hCD rfl hx1 rfl (fun c e => by cases e) (looks_mroIn KX1 T.sub) (fun h2 e2 k2' => ?_)
  have KX2 : K.In h2 := KX1.keeps k2'
  have hI : Looks (model P w) h2 (isInstance (.ref x) (.type "ValueError")) true := (InstAt.type (M := model P w) (ox := HandSPX.excO C t0) (od := none) ⟨k2' _ _ hx1, rfl, rfl, trivial⟩).andThen (looks_subIn KX2 T.ve)
  have hxC : x ≠ C := ks_ne KX1 (ox := HandSPX.excO C t0) (odx := none) ⟨hx1, rfl, rfl, trivial⟩ hcls
  have hup : alongIn K "__init__" (((Value.ref C :: bm).dropWhile (· != .ref C)).drop 1) = some (some (.builtin "ValueError.__init__")) := by
    have z := T.up
    unfold ks_superIn at z
    rw [hcls] at z
    exact z
  refine kxs_getMethod kxs_ValueError e2 (looks_opaque KX2 T.st) (l₀ := .ref C :: bm) ?_ rfl KX2 hup hI hxC (by decide) ?_
  · exact fun A Q E s k q => wpAny_bind ((looks_clsIn KX2 hcls) A _ E s k (wpAny_pure q))
  have hu3 : (h2.push (kxs_mw "ValueError.__init__" x)).get? h2.objs.size = some (kxs_mw "ValueError.__init__" x) := Heap.get?_push_at rfl rfl
  have k3' : ∀ b o, h2.get? b = some o → (h2.push (kxs_mw "ValueError.__init__" x)).get? b = some o := fun b o e => Heap.get?_push_of_some _ e
  have k13 : ∀ b o, h₁.get? b = some o → (h2.push (kxs_mw "ValueError.__init__" x)).get? b = some o := fun b o e => k3' b o (k2' b o e)
  refine kxs_callWith (i := "ValueError.__init__") (x := x) rfl (evalArgs_empty ⟨hu3, ?_⟩)
  refine call_bwVE (KX1.keeps k13 _ _ hC) (k13 _ _ hx1) hu3 (by rw [sizeLine_eq]; simp) fun h4 t1 k4 ex4 => ?_
  have k14 : ∀ b o, b ≠ x → h₁.get? b = some o → h4.get? b = some o := fun b o ne e => k4 b o ne (k13 b o e)
  refine wpAt_of_wpAny (wpAny_execs_nil ?_)
  exact hR h4 _ t1 (fun b o ne e => k14 b o ne (hk₁ b o e)) ex4
/-- what it promises: self is an exception without a dict, and stays one -/
def spI0 (C : Addr) : Sp := fun vs H Q _ => ∃ a : Addr, vs = [.ref a] ∧ H a = some (exo a C none) ∧ Q .non H
theorem init_fn0 {base : Heap} {CX : CXT} {k : Nat} (hce : CallE0 p0 p1 p2 p4) (T : ExcI P K C fI params (initB0 p0 p1 p2 p4 p5) scope fd) (hms : mg "super" = none)
    (hp : (params.posonlyargs ++ params.args).head?.map (·.arg) = some sf)
    (hks : scope.names.lookup ("super" : Str) = some .globalImplicit) (hkc : scope.names.lookup ("__class__" : Str) = some .free) (hka : scope.names.lookup sf = some .local) (hk : scope.kind = .function) (hcell : ∀ x ∈ scope.names, x.2 ≠ .cell)
    (hco : scope.isCoroutine = false) (hgen : scope.isGenerator = false) : FnOk P w K mg base CX k fI fd [sf] (spI0 C) := by
  refine ⟨fun vs H Q E ⟨a, e, _⟩ => by rw [e] <;> rfl, fun A outer s H args us vs Q E hr e0 hb hv ⟨a, ev, ha, hq⟩ => ?_⟩
  subst ev
  cases hv with
  | @cons _ u0 _ ur ra rr =>
    cases rr
    obtain rfl : u0 = Value.ref a := ra
    obtain ⟨mb, nsb, hbb⟩ := e0.mod.blt
    have up : ∀ b o, base.get? b = some o → s.heap.get? b = some o := fun b o e => (e0.bs b o e).1
    obtain ⟨t0, hx⟩ := exo_at e0.hok ha
    have Kx : K.lookup a = none := by
      cases q : K.lookup a with
      | none => rfl
      | some o =>
        have z := (e0.bs _ _ (e0.mod.kin _ _ q)).2
        rw [ha] at z; cases z
    refine init_run0 hce (mg := mg) (mb := mb) (t0 := t0) T (e0.mod.kin.keeps up) (e0.mod.glob.keeps up) hms (nsb.keeps up) (hbb _ (by decide)) (e0.mod.nolimit.keeps up) hr.depth hx hb Kx hp hks hkc hka hk hcell hco hgen fun h' tk t1 k5 hx5 => ?_
    have na : ∀ {b : Addr}, H b = none → b ≠ a := fun {b} nb z => by rw [z, ha] at nb; cases nb
    refine ⟨V.non, H, rfl, e0.bare, ?_, fun b o q => ?_, rfl, hq⟩
    · exact {
        keep := fun b o q n _ _ => k5 b o (na n) q
        slot := fun b o q n _ _ => ⟨o.slots, k5 b o (na n) q⟩
        free := fun b o q n _ => n
        there := fun b o q _ => by
          by_cases hb : b = a
          · exact ⟨_, by rw [hb]; exact hx5⟩
          · exact ⟨o, k5 b o hb q⟩
        tups := fun b xs q => q
        frzs := fun b o v q => q
        tbls := fun b ps q => ⟨#[], by rw [q]; simp⟩ }
    · by_cases hb : b = a
      · subst hb
        rw [ha] at q
        cases q
        exact exo_ok hx5
      · exact (e0.hok b o q).stay (fun c v hc z => k5 c v (by
            rcases hc with hc | hc
            · rw [hc]
              exact hb
            · exact at_ne ha hc exo_own) z)
          (fun c hc => hc) (fun c xs hc => hc)
end
end DXE
/-! DX26: several clauses 'except C as n', all of whose exceptions are caught; the def that tells which one came. -/
/-! DX27: the def that calls its lambda and tells which of several errors came. -/
/-! DL85: raise C() of a class without a field; a def that tells which of several errors came. -/
namespace DL
open PySem PySem.Spec PyProof.Rows L2
variable {G : Type}
structure RzC0 (P : Program) (w : World) (K : PySem.W.Frag) (mg : Str → Option Value) (base : Heap) (c : Str) : Prop where
  ex : ∃ C fI fd sf, mg c = some (.ref C) ∧ OexC K C ∧ PySem.W.findIn K (.ref C) "__init__" = some (some (.ref fI)) ∧ PySem.W.typeIn K (.ref fI) = some (.type "function") ∧ L2.Binds K fd [sf] [] ∧ FnOk P w K mg base C8.CX0 0 fI fd [sf] (DXE.spI0 C)
/-! ### several errors told -/
/-! ### what the head shows -/
section
variable {P : Program} {w : World} {K : PySem.W.Frag} {mg : Str → Option Value} {base : Heap} {file : Str} {d : XcD} {sf : Str} {p0 p1 p2 p4 p5 : Pos}
open PySem.W in
theorem rz0_of (hf : P.main.file = file) (ht : (P.main.scope.names.lookup ("super" : Str)).isSome = false) (hms : mg "super" = none) (hmx : mg d.x = some (.ref (He.ga K d.x))) (h : xcB K file d.x d.f = true) (e : xcObs K d.x = d.val)
    (hb : d.body = DXE.initB0 p0 p1 p2 p4 p5) (hce : DXE.CallE0 p0 p1 p2 p4) (hp : (d.params.posonlyargs ++ d.params.args).head?.map (·.arg) = some sf)
    (hbi : ∀ (q : Str) (kV doc pm : Value) (an : Option Addr) (cdv ct : Value) (cc : Addr) (us : List Value), us.length = 1 → bindArgs (ksFn "__init__" q d.params d.body d.scope .none kV doc pm an cdv ct cc) ⟨us, []⟩ = pure ([sf].zip us))
    (hks : d.scope.names.lookup ("super" : Str) = some .globalImplicit) (hkc : d.scope.names.lookup ("__class__" : Str) = some .free) (hka : d.scope.names.lookup sf = some .local) (hk : d.scope.kind = .function) (hcell : ∀ x ∈ d.scope.names, x.2 ≠ .cell)
    (hco : d.scope.isCoroutine = false) (hgen : d.scope.isGenerator = false) : RzC0 P w K mg base d.x := by
  obtain ⟨fd, ⟨qual, kV, doc, pm, an, cda, ct, cc, g2⟩, T, hno⟩ := xcB_ok h e hf ht
  have hbn : L2.Binds K fd [sf] [] := by
    rw [g2]
    exact L2.Binds.all fun us hl => hbi _ _ _ _ _ _ _ _ us hl
  rw [hb] at T
  exact ⟨_, _, fd, sf, hmx, T.oex, T.iC, T.tI, hbn, DXE.init_fn0 hce T hms hp hks hkc hka hk hcell hco hgen⟩
end
end DL
/-! DL86: a if c else b, the parts of which may raise; getters of properties, shown by the head. -/
namespace DL
open PySem PySem.Spec PyProof.Rows L2
end DL
/-! DL87: getters of properties, methods, len, as the head shows them. -/
namespace DL
open PySem PySem.Spec PyProof.Rows L2
/-- a property of a class: its name, its qualified name, the getter's def -/
structure PrD where
  m : Str
  qual : Str
  stm : Stmt
def PrD.val (d : PrD) : He.FnW := some (d.m, d.qual, defArgs d.stm, .stmts (defBody d.stm), defScope d.stm, mainGlobals, [], builtinsNs)
end DL
/-! DL88: the hook with getters of properties. -/
namespace DL
open PySem PySem.Spec PyProof.Rows L2
end DL
/-! DL101: the hook over things found by a search that keeps what it saw in the bits of a number. -/
namespace DL
open PySem PySem.Spec PyProof.Rows L2
end DL
/-! DL98: a def under a second name (y = x at module level). -/
namespace DL
open PySem PySem.Spec PyProof.Rows L2
end DL
/-! DL99: methods and classes called by keywords. -/
namespace DZ
open PySem PySem.Spec PyProof.Rows L2
/-- self by place, the others by keywords -/
def KwM (K : PySem.W.Frag) (fd : FuncData) (ps ks : List Str) (pm : List Nat) : Prop := ∀ (s : Shared) (u : Value) (ws : List Value), K.In s.heap → ws.length = ks.length → BindsTo s fd ⟨[u], ks.zip ws⟩ (ps.zip (u :: pm.map fun i => ws.getD i .none))
end DZ
namespace DL
open PySem PySem.Spec PyProof.Rows L2
end DL
/-! DL102: isinstance of an own class, == by an own __eq__ with both answers. -/
namespace DL
open PySem PySem.Spec PyProof.Rows L2
end DL
/-! DL104: != of an own class whose __eq__ is its own. -/
namespace DL
open PySem PySem.Spec PyProof.Rows L2
end DL
/-! DL105: list(x), x a numbered list. -/
namespace DL
open PySem PySem.Spec PyProof.Rows L2
end DL
/-! DX31: C(e) and C(), C an exception class of one's own, as values. -/
namespace DXE
open PySem PySem.Spec PyProof.Rows L2 PySem.W
section
variable {X : Cx} {CX : CXT} {x : Str} {C fI : Addr} {k : Nat} {fd : FuncData} {sf n f : Str} {e : Expr} {ta : TA} {p pos : Pos}
/-- C() -/
theorem pe_exc0 (T : OexC X.K C) (iC : findIn X.K (.ref C) "__init__" = some (some (.ref fI))) (tI : typeIn X.K (.ref fI) = some (.type "function")) (F1 : FnOk X.prog X.w X.K X.mg X.base CX k fI fd [sf] (spI0 C)) (hr : Room (k + 1) X.A)
    (hb : Binds X.K fd [sf] []) (hx : Passes CX X (fun _ _ _ => False)) (hg : Gl X x) (hm : X.mg x = some (.ref C)) (hdb : (x == ("__debug__" : Str)) = false) : PE X (.Call (.Name x p) [] [] pos) (fun _ H Q => ∀ a, H a = none → Q (.ref a) (upd H a (exo a C none))) := by
  refine ⟨fun pins s σ H1 Q I1 h => ?_⟩
  obtain ⟨nm, q, N, bs, bm, sn, sub, ab, col, dd, k0, k1, k2, k3, k5, hC, hbm⟩ := T.cls
  refine wpAny_Call_Name_kw (ld_glob I1 hg hm ?_ hdb)
  refine PySem.W.callWith_K0 (K := X.K) I1.kIn T.kC ?_
  show wpAny _ _ (call (.ref C) []) _ _ _
  obtain ⟨hp, g, dr, tk, os⟩ := s
  have hsz : hp.objs.size ≤ hp.objs.size + 1 := Nat.le_succ _
  have hn : H1 (hp.objs.size + 1) = none := I1.hok.fresh hsz
  have kk : ∀ b o, hp.get? b = some o → ((hp.push (PySem.W.kdv_tup [])).push (PySem.HandSPX.excO C hp.objs.size)).get? b = some o := fun b o e => Heap.get?_push_of_some _ (Heap.get?_push_of_some _ e)
  have hget : ((hp.push (PySem.W.kdv_tup [])).push (PySem.HandSPX.excO C hp.objs.size)).get? (hp.objs.size + 1) = some (PySem.HandSPX.excO C hp.objs.size) := by heap_get
  have I2 : Inv X pins σ (upd H1 (hp.objs.size + 1) (exo (hp.objs.size + 1) C none)) ⟨(hp.push (PySem.W.kdv_tup [])).push (PySem.HandSPX.excO C hp.objs.size), g, dr, tk, os⟩ :=
    I1.laid (t' := tk) (a := hp.objs.size + 1) (o := exo (hp.objs.size + 1) C none) (h' := (hp.push (PySem.W.kdv_tup [])).push (PySem.HandSPX.excO C hp.objs.size)) kk hsz (exo_ok hget)
  refine wpAny_call (PySem.HandSPX.call_own F.excBase_ValueError (fun Y => PySem.HandSPX.refsVE_contains Y bm hbm) (I1.kIn _ _ hC) (PySem.W.looks_findIn I1.kIn iC) (fun self => PySem.W.bind_fn I1.kIn self tI) (Nat.zero_le _)
    (codeAny_mono (F1.run _ X.stack _ _ ⟨[Value.ref (hp.objs.size + 1)], []⟩ [Value.ref (hp.objs.size + 1)] [V.ref (hp.objs.size + 1)] (fun v H' => v = .non ∧ H' = upd H1 (hp.objs.size + 1) (exo (hp.objs.size + 1) C none)) (fun _ _ _ => False) (hr.make C [] []) (I2.env0.make C [] []) (hb _ [Value.ref (hp.objs.size + 1)] I2.kIn rfl) (.cons rfl .nil) ⟨_, rfl, upd_same, rfl, rfl⟩) fun r s' hq' => ?_))
  cases r with
  | error er => exact hx pins σ _ _ er s' I2 hq'
  | ok fl =>
    cases fl with
    | ret u =>
      obtain ⟨v, H2, I3, rv, ev, eH⟩ := I2.after hq'
      subst ev eH
      exact ⟨rv, .ref _, _, I3, rfl, h _ hn⟩
    | next => exact False.elim hq'
    | brk => exact False.elim hq'
    | cont => exact False.elim hq'
/-- C(e) -/
theorem pe_exc1 (T : OexC X.K C) (iC : findIn X.K (.ref C) "__init__" = some (some (.ref fI))) (tI : typeIn X.K (.ref fI) = some (.type "function")) (F1 : FnOk X.prog X.w X.K X.mg X.base CX k fI fd [sf, n] (spI C f)) (hr : Room (k + 1) X.A)
    (hb : Binds X.K fd [sf, n] []) (hx : Passes CX X (fun _ _ _ => False)) (hg : Gl X x) (hm : X.mg x = some (.ref C)) (ha : PA X [e] ta)
    (hdb : (x == ("__debug__" : Str)) = false) (he : starEach [e] X.env = (false, eval e X.env) :: starEach [] X.env) (hpl : (backTo pos (starEach [] X.env)).any (·.1) = false) :
    PE X (.Call (.Name x p) [e] [] pos) (fun σ H Q => ta σ H fun vs H1 => ∃ v, vs = [v] ∧ ∀ a d, H1 a = none → H1 d = none → d ≠ a → Q (.ref a) (upd (upd H1 d (exd d [(f, v)])) a (exo a C (some d)))) := by
  refine ⟨fun pins s σ H Q I h => ?_⟩
  obtain ⟨nm, q, N, bs, bm, sn, sub, ab, col, dd, k0, k1, k2, k3, k5, hC, hbm⟩ := T.cls
  refine wpAny_Call_Name_kw (ld_glob I hg hm ?_ hdb)
  refine PySem.W.callWith_K (h₀ := X.base) I.ok.mod.kin T.kC (thn (ha.run pos pins s σ H _ I h) fun us s1 ⟨vs, H1, I1, r1, v, ev, q1⟩ => ⟨I1.kIn, ?_⟩) he hpl
  subst ev
  show wpAny _ _ (call (.ref C) us) _ _ _
  obtain ⟨hp, g, dr, tk, os⟩ := s1
  have hsz : hp.objs.size ≤ hp.objs.size + 1 := Nat.le_succ _
  have hn : H1 (hp.objs.size + 1) = none := I1.hok.fresh hsz
  have kk : ∀ b o, hp.get? b = some o → ((hp.push (PySem.W.kdv_tup us)).push (PySem.HandSPX.excO C hp.objs.size)).get? b = some o := fun b o e => Heap.get?_push_of_some _ (Heap.get?_push_of_some _ e)
  have hget : ((hp.push (PySem.W.kdv_tup us)).push (PySem.HandSPX.excO C hp.objs.size)).get? (hp.objs.size + 1) = some (PySem.HandSPX.excO C hp.objs.size) := by heap_get
  have I2 : Inv X pins σ (upd H1 (hp.objs.size + 1) (exo (hp.objs.size + 1) C none)) ⟨(hp.push (PySem.W.kdv_tup us)).push (PySem.HandSPX.excO C hp.objs.size), g, dr, tk, os⟩ :=
    I1.laid (t' := tk) (a := hp.objs.size + 1) (o := exo (hp.objs.size + 1) C none) (h' := (hp.push (PySem.W.kdv_tup us)).push (PySem.HandSPX.excO C hp.objs.size)) kk hsz (exo_ok hget)
  have r2 : Vals (V.ref (hp.objs.size + 1) :: [v]) (Value.ref (hp.objs.size + 1) :: us) := .cons rfl r1
  have hl : (Value.ref (hp.objs.size + 1) :: us).length = [sf, n].length := r2.length.symm
  have hus : us.length ≤ sizeLine := by
    rw [← r1.length, sizeLine_eq]
    simp
  refine wpAny_call (PySem.HandSPX.call_own F.excBase_ValueError (fun Y => PySem.HandSPX.refsVE_contains Y bm hbm) (I1.kIn _ _ hC) (PySem.W.looks_findIn I1.kIn iC) (fun self => PySem.W.bind_fn I1.kIn self tI) hus
    (codeAny_mono (F1.run _ X.stack _ _ ⟨Value.ref (hp.objs.size + 1) :: us, []⟩ (Value.ref (hp.objs.size + 1) :: us) [V.ref (hp.objs.size + 1), v] (fun z H' => z = .non ∧ Q (.ref (hp.objs.size + 1)) H') (fun _ _ _ => False) (hr.make C us []) (I2.env0.make C us []) (by
      have := hb _ (Value.ref (hp.objs.size + 1) :: us) I2.kIn (by simpa using hl)
      simpa using this) r2 ⟨_, v, rfl, upd_same, fun d hd hda => ⟨rfl, ?_⟩⟩) fun r s' hq' => ?_))
  · have hd1 : H1 d = none := by rw [upd_ne hda] at hd; exact hd
    have eq : upd (upd (upd H1 (hp.objs.size + 1) (exo (hp.objs.size + 1) C none)) d (exd d [(f, v)])) (hp.objs.size + 1) (exo (hp.objs.size + 1) C (some d)) = upd (upd H1 d (exd d [(f, v)])) (hp.objs.size + 1) (exo (hp.objs.size + 1) C (some d)) := by
      funext b
      by_cases hb2 : b = hp.objs.size + 1
      · rw [hb2, upd_same, upd_same]
      · rw [upd_ne hb2, upd_ne hb2]
        by_cases hbd : b = d
        · rw [hbd, upd_same, upd_same]
        · rw [upd_ne hbd, upd_ne hbd, upd_ne hb2]
    rw [eq]
    exact q1 _ d hn hd1 hda
  · cases r with
    | error er => exact hx pins σ _ _ er s' I2 hq'
    | ok fl =>
      cases fl with
      | ret u =>
        obtain ⟨z, H2, I3, rv, ev, hQ⟩ := I2.after hq'
        subst ev
        exact ⟨rv, .ref _, _, I3, rfl, hQ⟩
      | next => exact False.elim hq'
      | brk => exact False.elim hq'
      | cont => exact False.elim hq'
end
end DXE
/-! DL106: exceptions of one's own as numbered things: C(e), C(). -/
namespace DL
open PySem PySem.Spec PyProof.Rows L2
/-- C(e): its dict is numbered ahead of it -/
def mExc (c f : Str) (fe : M Dk S) : M Dk S := fun st g => bnd (mTake fe st g) fun d st g => some (.sh (.obj (g.objs.length + 1 + 4)), st, { g with objs := (g.objs ++ [.xd f d]) ++ [.exc c (some g.objs.length)] })
def mExc0 (c : Str) : M Dk S := fun st g => some (.sh (.obj (g.objs.length + 4)), st, { g with objs := g.objs ++ [.exc c none] })
section
variable {C : CF} {Fam : Wd Dk → Prop} {lc : Addr} {e : Expr} {fe : M Dk S} {p p1 pos : Pos} {c f : Str}
theorem RzC.ga {P : Program} {w : World} {K : PySem.W.Frag} {mg : Str → Option Value} {base : Heap} (T : RzC P w K mg base c f) (h : mg c = some (.ref (He.ga K c))) : ∃ fI fd sf n, OexC K (He.ga K c) ∧ PySem.W.findIn K (.ref (He.ga K c)) "__init__" = some (some (.ref fI)) ∧ PySem.W.typeIn K (.ref fI) = some (.type "function") ∧ L2.Binds K fd [sf, n] [] ∧ FnOk P w K mg base C8.CX0 0 fI fd [sf, n] (DXE.spI (He.ga K c) f) := by
  obtain ⟨C0, fI, fd, sf, n, hm, a1, a2, a3, a4, a5⟩ := T.ex
  have e : C0 = He.ga K c := by
    rw [h] at hm
    simpa using hm.symm
  subst e
  exact ⟨fI, fd, sf, n, a1, a2, a3, a4, a5⟩
theorem d_exc (hF : ∀ W, Fam W → DF ⟨C.K, C.w, lc⟩ W) (T : RzC C.prog C.w C.K C.mg C.base c f) (hga : C.mg c = some (.ref (He.ga C.K c))) (he : DE C Fam e fe) (hk : 1 ≤ C.room := by decide) (hg : ∀ j, Gl (C.X j) c := by intro _; rfl) (hdb : (c == ("__debug__" : Str)) = false := by decide)
    (h0 : ∀ j, starEach [e] (C.X j).env = (false, eval e (C.X j).env) :: starEach [] (C.X j).env := by intro _; rfl) (hpl : ∀ j, (backTo p1 (starEach [] (C.X j).env)).any (·.1) = false := by intro _; rfl) :
    DE C Fam (.Call (.Name c p) [e] [] p1) (mExc c f fe) := by
  obtain ⟨fI, fd, sf, n, ox, iC, tI, hb, F1⟩ := T.ga hga
  obtain ⟨ta, pa, ea⟩ := (a_cons he a_nil h0).ex
  refine ⟨_, fun j => DXE.pe_exc1 (X := C.X j) (CX := C8.CX0) (k := 0) (by rw [C.hK]; exact ox) (by rw [C.hK]; exact iC) (by rw [C.hK]; exact tI) (by rw [C.hP, C.hw, C.hK, C.hmg, C.hbase]; exact F1) ((C.hr j).mono hk) (by rw [C.hK]; exact hb) C8.pass0 (hg j) (by rw [C.hmg]; exact hga) (pa j) hdb (h0 j) (hpl j), fun W hW P₀ H₀ σ st τ ts H g z st' g' Q R h q => ?_⟩
  obtain ⟨d, st1, g1, e1, h⟩ := bnd_eq h
  simp only [Option.some.injEq, Prod.mk.injEq] at h; obtain ⟨rfl, rfl, rfl⟩ := h
  have e2 : mCons fe mNil st g = some ([d], st1, g1) := by simp only [mCons, e1, bnd_some, mNil]
  refine ea W hW _ _ _ _ _ _ _ _ _ _ _ _ R e2 fun vs H1 P O R1 rp => ?_
  simp only [Reps] at rp
  obtain ⟨v, r, rfl, rv, rfl⟩ := rp
  refine ⟨v, rfl, fun a dd ha hd hda => ?_⟩
  have R2 := R1.newOb (pw := ⟨C.K, C.w, lc⟩) (y := .xd f d) (o := exd dd [(f, v)]) (hF W hW) hd ⟨v, upd_same, rv⟩
  have ha2 : upd H1 dd (exd dd [(f, v)]) a = none := by rw [upd_ne (Ne.symm hda)]; exact ha
  have R3 := R2.newOb (pw := ⟨C.K, C.w, lc⟩) (y := .exc c (some g1.objs.length)) (o := exo a (He.ga C.K c) (some dd)) (hF W hW) ha2 ⟨dd, addOb_at, upd_same⟩
  refine q _ _ ⟨_, O, R3.push ?_⟩
  rw [rep_objN]
  refine ⟨a, ?_, rfl⟩
  have : ({ g1 with objs := g1.objs ++ [.xd f d] } : Dk).objs.length + 4 = g1.objs.length + 1 + 4 := by simp
  rw [← this]
  exact addOb_at
theorem d_exc0 (hF : ∀ W, Fam W → DF ⟨C.K, C.w, lc⟩ W) (T : RzC0 C.prog C.w C.K C.mg C.base c) (hga : C.mg c = some (.ref (He.ga C.K c))) (hk : 1 ≤ C.room := by decide) (hg : ∀ j, Gl (C.X j) c := by intro _; rfl) (hdb : (c == ("__debug__" : Str)) = false := by decide) :
    DE C Fam (.Call (.Name c p) [] [] p1) (mExc0 c) := by
  obtain ⟨C0, fI, fd, sf, hm, ox, iC, tI, hb, F1⟩ := T.ex
  have e : C0 = He.ga C.K c := by
    rw [hga] at hm
    simpa using hm.symm
  subst e
  refine ⟨_, fun j => DXE.pe_exc0 (X := C.X j) (CX := C8.CX0) (k := 0) (by rw [C.hK]; exact ox) (by rw [C.hK]; exact iC) (by rw [C.hK]; exact tI) (by rw [C.hP, C.hw, C.hK, C.hmg, C.hbase]; exact F1) ((C.hr j).mono hk) (by rw [C.hK]; exact hb) C8.pass0 (hg j) (by rw [C.hmg]; exact hga) hdb, fun W hW P₀ H₀ σ st τ ts H g z st' g' Q R h q => ?_⟩
  unfold mExc0 at h
  simp only [Option.some.injEq, Prod.mk.injEq] at h; obtain ⟨rfl, rfl, rfl⟩ := h
  intro a ha
  obtain ⟨P, O, R1⟩ := R
  have R3 := R1.newOb (pw := ⟨C.K, C.w, lc⟩) (y := .exc c none) (o := exo a (He.ga C.K c) none) (hF W hW) ha (show _ = _ from upd_same)
  refine q _ _ ⟨_, O, R3.push ?_⟩
  rw [rep_objN]
  exact ⟨a, addOb_at, rfl⟩
end
end DL
/-! DX32: fields of exceptions that are values; isinstance of them. -/
namespace DXE
open PySem PySem.Spec PyProof.Rows L2 PySem.W
theorem pe_xfo {X : Cx} {e : Expr} {te : TE} {pos : Pos} {n : Str} (he : PE X e te) (hb : attributeBase e n X.env (eval e X.env) = eval e X.env) :
    PE X (.Attribute e n pos) (fun σ H Q => te σ H fun x H1 => ∃ (a C dd : Addr) (fs : List (Str × V)) (v : V), x = .ref a ∧ H1 a = some (exo a C (some dd)) ∧ H1 dd = some (exd dd fs) ∧ XfC X.K C ∧ findIn X.K (.ref C) n = some none ∧ fs.lookup n = some v ∧ Q v H1) := by
  refine ⟨fun pins s σ H Q I h => ?_⟩
  refine attr_of hb (thn (he.run pins s σ H _ I h) fun u s1 hh => ?_)
  obtain ⟨x, H1, I1, rx, a, C, dd, fs, v, ex, ea, ed, T, hno, l, q⟩ := hh
  subst ex
  obtain rfl : u = Value.ref a := rx
  obtain ⟨t1, ha⟩ := exo_at I1.hok ea
  obtain ⟨mA, hns, hr⟩ := exd_at I1.hok ed
  obtain ⟨od, ho, hl⟩ := lookIn_ns hns
  obtain ⟨u, hu, ru⟩ := RelO.some_of (v := v) (o := mA n) (by rw [← l]; exact hr n)
  have J : PySem.W.InstAt s1.heap a _ C (some od) := ⟨ha, rfl, rfl, ho⟩
  exact HandSPX.exc_get I1.kIn J T.ga T.gg T.exC (PySem.W.findObj_own T.hdC hno rfl (by rw [hl, hu])) (handed_of ru) ⟨v, H1, I1.tok _, ru, q⟩
/-- isinstance(e, c) -/
def rIsO (K : Frag) : List V → Hp → VK → Prop := fun xs H Q => ∃ (a D : Addr) (c : V) (cv : Value) (b : Bool), (H a = some (exo a D none) ∨ ∃ dd fs, H a = some (exo a D (some dd)) ∧ H dd = some (exd dd fs)) ∧ ExcC K D ∧ xs = [.ref a, c] ∧ (∀ u, RelV c u → u = cv) ∧ kitOne K (.ref D) cv = some b ∧ Q (.bl b) H
theorem call_isO {X : Cx} : CallR X (.builtin "isinstance") (rIsO X.K) := by
  intro pins s σ H xs us Q I r h
  obtain ⟨a, D, c, cv, b, hx, C, rfl, hcv, e, q⟩ := h
  cases r with
  | cons rx rr =>
    cases rr with
    | cons rt rr =>
      cases rr
      cases rx
      have ec := hcv _ rt
      subst ec
      rcases hx with hx | ⟨dd, fs, hx, hd⟩
      · obtain ⟨t1, ha⟩ := exo_at I.hok hx
        have J : InstAt s.heap a _ D none := ⟨ha, rfl, rfl, trivial⟩
        exact kia_one (kitx_excA C) I.kIn J e (fun z => nomatch z) fun tk => ⟨.bl b, H, I.kept (t' := tk) fun _ _ z => z, rfl, q⟩
      · obtain ⟨t1, ha⟩ := exo_at I.hok hx
        obtain ⟨mA, hns, hr⟩ := exd_at I.hok hd
        obtain ⟨od, ho, hl⟩ := lookIn_ns hns
        have J : InstAt s.heap a _ D (some od) := ⟨ha, rfl, rfl, ho⟩
        exact kia_one (kitx_excA C) I.kIn J e (fun z => nomatch z) fun tk => ⟨.bl b, H, I.kept (t' := tk) fun _ _ z => z, rfl, q⟩
end DXE
/-! DL107: e.f and isinstance(e, C), e an exception that is a numbered thing. -/
namespace DL
open PySem PySem.Spec PyProof.Rows L2
def isx (c t : Str) : Bool := c == t || (t == ("RateError" : Str) || t == ("ValueError" : Str))
def fldX (cs : List Str) (f : Str) (g : Dk) (n : Nat) : Option D := match g.objs[n]? with
  | some (.exc c (some k)) => if c ∈ cs then (match g.objs[k]? with
    | some (.xd f' v) => if f' = f then some v else none
    | _ => none) else none
  | _ => none
def clsX (cs : List Str) (g : Dk) (n : Nat) : Option Str := match g.objs[n]? with
  | some (.exc c none) => if c ∈ cs then some c else none
  | some (.exc c (some k)) => if c ∈ cs then (match g.objs[k]? with
    | some (.xd _ _) => some c
    | _ => none) else none
  | _ => none
theorem fldX_eq {cs : List Str} {f : Str} {g : Dk} {n : Nat} {v : D} (h : fldX cs f g n = some v) : ∃ c k, g.objs[n]? = some (.exc c (some k)) ∧ c ∈ cs ∧ g.objs[k]? = some (.xd f v) := by
  unfold fldX at h
  split at h
  · rename_i c k hx
    split at h
    · rename_i hc
      split at h
      · rename_i f' v' hk
        split at h
        · rename_i hf
          cases h
          subst hf
          exact ⟨c, k, hx, hc, hk⟩
        · cases h
      · cases h
    · cases h
  · cases h
theorem clsX_eq {cs : List Str} {g : Dk} {n : Nat} {c : Str} (h : clsX cs g n = some c) : c ∈ cs ∧ (g.objs[n]? = some (.exc c none) ∨ ∃ k f v, g.objs[n]? = some (.exc c (some k)) ∧ g.objs[k]? = some (.xd f v)) := by
  unfold clsX at h
  split at h
  · rename_i c' hx
    split at h
    · rename_i hc
      cases h
      exact ⟨hc, .inl hx⟩
    · cases h
  · rename_i c' k hx
    split at h
    · rename_i hc
      split at h
      · rename_i f v hk
        cases h
        exact ⟨hc, .inr ⟨k, f, v, hx, hk⟩⟩
      · cases h
    · cases h
  · cases h
def mXf (cs : List Str) (f : Str) (fe : M Dk S) : M Dk S := fun st g => bnd (fe st g) fun x st g => (numO x).bind fun n => (fldX cs f g n).map fun v => (.sh v, st, g)
def mIsX (cs : List Str) (t : Str) (fe : M Dk S) : M Dk S := fun st g => bnd (fe st g) fun x st g => (numO x).bind fun n => (clsX cs g n).map fun c => (.sh (.bl (isx c t)), st, g)
section
variable {C : CF} {Fam : Wd Dk → Prop} {lc : Addr} {e : Expr} {fe : M Dk S} {p p1 p2 pos : Pos} {f T : Str} {cs : List Str}
theorem d_xf (hF : ∀ W, Fam W → DF ⟨C.K, C.w, lc⟩ W) (hX : ∀ c ∈ cs, XfC C.K (He.ga C.K c) ∧ PySem.W.findIn C.K (.ref (He.ga C.K c)) f = some none) (he : DE C Fam e fe) (hb : ∀ j, attributeBase e f (C.X j).env (eval e (C.X j).env) = eval e (C.X j).env := by intro _; rfl) :
    DE C Fam (.Attribute e f pos) (mXf cs f fe) := by
  obtain ⟨te, pe, ee⟩ := he.ex
  refine ⟨_, fun j => by
    have := DXE.pe_xfo (X := C.X j) (n := f) (pos := pos) (pe j) (hb j)
    rw [C.hK j] at this
    exact this, fun W hW P₀ H₀ σ st τ ts H g z st' g' Q R h q => ?_⟩
  obtain ⟨x, st1, g1, e1, h⟩ := bnd_eq h
  obtain ⟨n, en, h9⟩ := Option.bind_eq_some_iff.mp h
  obtain rfl := numO_eq en
  obtain ⟨v, ev, h8⟩ := Option.map_eq_some_iff.mp h9
  simp only [Prod.mk.injEq] at h8; obtain ⟨rfl, rfl, rfl⟩ := h8
  obtain ⟨c, k, hx, hc, hk⟩ := fldX_eq ev
  refine ee W hW _ _ _ _ _ _ _ _ _ _ _ _ R e1 fun u H1 R1 => ?_
  obtain ⟨P, O, R1⟩ := R1
  have ro : Rep C.K W P (.obj (n + 4)) u := R1.temps.1
  obtain ⟨a, rfl, _, ⟨dd, eo, eH⟩, _⟩ := ob_at (pw := ⟨C.K, C.w, lc⟩) (hF W hW) R1.wld ro hx
  have ro2 : Rep C.K W P (.obj (k + 4)) (.ref dd) := by rw [rep_objN]; exact ⟨dd, eo, rfl⟩
  obtain ⟨dd2, e2, _, ⟨y, eH2, rv⟩, _⟩ := ob_at (pw := ⟨C.K, C.w, lc⟩) (hF W hW) R1.wld ro2 hk
  cases e2
  refine ⟨a, _, dd, [(f, y)], y, rfl, eH, eH2, (hX c hc).1, (hX c hc).2, by simp, q _ _ ⟨P, O, R1.pop.push rv⟩⟩
theorem ev_isX {W : Wd Dk} {te : TE} {cw : V} {cv : Value} (hF : DF ⟨C.K, C.w, lc⟩ W) (hX : ∀ c ∈ cs, ExcC C.K (He.ga C.K c) ∧ PySem.W.kitOne C.K (.ref (He.ga C.K c)) cv = some (isx c T)) (hcv : ∀ u, RelV cw u → u = cv) (ee : EvE C.K W te fe) : EvE C.K W (tUn (fun v => DXE.rIsO C.K [v, cw]) te) (mIsX cs T fe) := by
  intro P₀ H₀ σ st τ ts H g z st' g' Q R h q
  obtain ⟨x, st1, g1, e1, h⟩ := bnd_eq h
  obtain ⟨n, en, h9⟩ := Option.bind_eq_some_iff.mp h
  obtain rfl := numO_eq en
  obtain ⟨c, ev, h8⟩ := Option.map_eq_some_iff.mp h9
  simp only [Prod.mk.injEq] at h8; obtain ⟨rfl, rfl, rfl⟩ := h8
  obtain ⟨hc, hx⟩ := clsX_eq ev
  refine ee _ _ _ _ _ _ _ _ _ _ _ _ R e1 fun u H1 R1 => ?_
  obtain ⟨P, O, R1⟩ := R1
  have ro : Rep C.K W P (.obj (n + 4)) u := R1.temps.1
  rcases hx with hx | ⟨k, f, v, hx, hk⟩
  · obtain ⟨a, rfl, _, eH, _⟩ := ob_at (pw := ⟨C.K, C.w, lc⟩) hF R1.wld ro hx
    exact ⟨a, _, cw, cv, isx c T, .inl eH, (hX c hc).1, rfl, hcv, (hX c hc).2, q _ _ ⟨P, O, R1.pop.push (by simp [Rep])⟩⟩
  · obtain ⟨a, rfl, _, ⟨dd, eo, eH⟩, _⟩ := ob_at (pw := ⟨C.K, C.w, lc⟩) hF R1.wld ro hx
    have ro2 : Rep C.K W P (.obj (k + 4)) (.ref dd) := by rw [rep_objN]; exact ⟨dd, eo, rfl⟩
    obtain ⟨dd2, e2, _, ⟨y, eH2, rv⟩, _⟩ := ob_at (pw := ⟨C.K, C.w, lc⟩) hF R1.wld ro2 hk
    cases e2
    exact ⟨a, _, cw, cv, isx c T, .inr ⟨dd, _, eH, eH2⟩, (hX c hc).1, rfl, hcv, (hX c hc).2, q _ _ ⟨P, O, R1.pop.push (by simp [Rep])⟩⟩
theorem d_isX (hF : ∀ W, Fam W → DF ⟨C.K, C.w, lc⟩ W) (hX : ∀ c ∈ cs, ExcC C.K (He.ga C.K c) ∧ PySem.W.kitOne C.K (.ref (He.ga C.K c)) (.ref (He.ga C.K T)) = some (isx c T)) (hm : C.mg "isinstance" = none) (hmT : C.mg T = some (.ref (He.ga C.K T))) (he : DE C Fam e fe)
    (hg : ∀ j, Gl (C.X j) "isinstance" := by intro _; rfl) (hgT : ∀ j, Gl (C.X j) T := by intro _; rfl) (hd : (T == ("__debug__" : Str)) = false := by decide)
    (h0 : ∀ j, starEach [e, .Name T p2] (C.X j).env = (false, eval e (C.X j).env) :: starEach [.Name T p2] (C.X j).env := by intro _; rfl) : DE C Fam (.Call (.Name "isinstance" p) [e, .Name T p2] [] pos) (mIsX cs T fe) := by
  obtain ⟨te, pe, ee⟩ := he.ex
  exact ⟨tUn (fun v => DXE.rIsO C.K [v, .ref (He.ga C.K T)]) te, fun j => pe_callB (id := "isinstance") (r := DXE.rIsO C.K) (by rw [← C.hK j]; exact DXE.call_isO) (hg j) (by rw [C.hmg j]; exact hm) (by decide +kernel) (pa_cons (pe j) (pa_cons (pe_glob (v := .ref (He.ga C.K T)) (hgT j) (by rw [C.hmg j]; exact hmT) rfl hd) pa_nil rfl) (h0 j)) (he := h0 j) (hpl := rfl), fun W hW => ev_isX (hF W hW) hX (fun u r => r) (ee W hW)⟩
theorem d_isXV (hF : ∀ W, Fam W → DF ⟨C.K, C.w, lc⟩ W) (hX : ∀ c ∈ cs, ExcC C.K (He.ga C.K c) ∧ PySem.W.kitOne C.K (.ref (He.ga C.K c)) (.type "ValueError") = some (isx c "ValueError")) (hm : C.mg "isinstance" = none) (hmT : C.mg "ValueError" = none) (he : DE C Fam e fe)
    (hg : ∀ j, Gl (C.X j) "isinstance" := by intro _; rfl) (hgT : ∀ j, Gl (C.X j) "ValueError" := by intro _; rfl)
    (h0 : ∀ j, starEach [e, .Name "ValueError" p2] (C.X j).env = (false, eval e (C.X j).env) :: starEach [.Name "ValueError" p2] (C.X j).env := by intro _; rfl) : DE C Fam (.Call (.Name "isinstance" p) [e, .Name "ValueError" p2] [] pos) (mIsX cs "ValueError" fe) := by
  obtain ⟨te, pe, ee⟩ := he.ex
  exact ⟨tUn (fun v => DXE.rIsO C.K [v, .ty "ValueError"]) te, fun j => pe_callB (id := "isinstance") (r := DXE.rIsO C.K) (by rw [← C.hK j]; exact DXE.call_isO) (hg j) (by rw [C.hmg j]; exact hm) (by decide +kernel) (pa_cons (pe j) (pa_cons (pe_bltn (v := .ty "ValueError") (hgT j) (by rw [C.hmg j]; exact hmT) (by decide +kernel) rfl (by decide) (by decide)) pa_nil rfl) (h0 j)) (he := h0 j) (hpl := rfl), fun W hW => ev_isX (hF W hW) hX (fun u r => r) (ee W hW)⟩
end
end DL
/-! DX33: C(f = e): an exception class of one's own called by keyword. -/
namespace PySem
namespace HandSPX
open Builtin Builtin.ObjectAttr
section
variable {prog : Program} {w : World} {A : Around} {M : Model} {E : Value → Shared → Prop} {R : Result → Shared → Prop} {h : Heap} {g : Array GenState} {d : Drawn} {t : Nat} {os : OsState}
variable {nm q : Str} {C N : Addr} {bs bm bmB : List Value} {hdct : Bool} {sn : List Str} {sub : List Value} {ab : Bool} {col : Option Bool} {dd : Option Addr} {k0 k1 k2 k3 k5 : Option Value} {B newId initId : String} {kw : List (Str × Value)}
theorem check_new_ownK (F : ExcBaseFacts B newId initId bmB) (hT : ∀ X : String, bm.contains (.type X) = bmB.contains (.type X)) {Q : Unit → Shared → Prop}
    (hC : h.get? C = some (excClassObj nm q C N bs bm hdct sn sub ab col dd k0 k1 k2 k3 k5 newId)) (hq : Q () ⟨h, g, d, t, os⟩) : wpAny M A (checkBuiltinCall newId ⟨[.ref C], kw⟩) Q E ⟨h, g, d, t, os⟩ := by
  have hcont : (Value.ref C :: bm).contains (.type B) = true := by rw [List.contains_cons, hT, F.hasB, Bool.or_true]
  have hstar := F.noStar
  simp only [checkBuiltinCall, F.newKind, F.newSplit, F.newRow]
  repeat (first | refine wpAny_loadPart_at hC ?_ | (refine wpAny_isSubtype_exc hC ?_; rw [hcont]) | refine wpAny_staticBase_exc hC ?_ | refine wpAny_madeBy_exc hC ?_ | simp only [bne_self_eq_false, Bool.false_eq_true, if_false] | wp_step)
  exact hq
theorem new_ownK (F : ExcBaseFacts B newId initId bmB) (hT : ∀ X : String, bm.contains (.type X) = bmB.contains (.type X))
    (hC : h.get? C = some (excClassObj nm q C N bs bm hdct sn sub ab col dd k0 k1 k2 k3 k5 newId))
    (hq : R (.ok (.ret (.ref (h.objs.size + 1)))) ⟨(h.push { cls := .type "tuple", data := .seq #[] }).push
      { cls := .ref C, data := .fields #[.ref h.objs.size, .none, .none, .none, .bool false, .none] }, g, d, t, os⟩) :
    codeAny (model prog w) A (.builtin newId ⟨[.ref C], kw⟩) R ⟨h, g, d, t, os⟩ := by
  have hends := F.ends
  have hcB : (Value.ref C :: bm).contains (.type B) = true := by rw [List.contains_cons, hT, F.hasB, Bool.or_true]
  have hcA : (Value.ref C :: bm).contains (.type "AttributeError") = false := by rw [List.contains_cons, hT, F.noAttr]; rfl
  have hcN : (Value.ref C :: bm).contains (.type "NameError") = false := by rw [List.contains_cons, hT, F.noName]; rfl
  refine codeAny_builtinAt F.entry ?_
  unfold Builtin.«BaseException.__new__»
  refine wpAt_bind ?_
  show wpAt _ _ _ (stack >>= _) _ _ _
  refine wpAt_bind (wpAt_stack fun p below => wpAt_of_wpAny ?_)
  wp_walk
  refine wpAt_of_wpAny ?_
  rw [F.owner]
  repeat (first | with_reducible refine wpAny_madeHere_exc F.canon hC ?_ | with_reducible refine wpAny_loadPart_at hC ?_ | (with_reducible refine wpAny_isSubtype_exc hC ?_; first | rw [hcB] | rw [hcA] | rw [hcN]) | wp_step)
  show R _ _
  rw [Heap.size_push]
  exact hq
theorem type_call_ownK (F : ExcBaseFacts B newId initId bmB) (hT : ∀ X : String, bm.contains (.type X) = bmB.contains (.type X)) {fI : Addr} {Q : Fin → Shared → Prop}
    (hC : h.get? C = some (excClassObj nm q C N bs bm hdct sn sub ab col dd k0 k1 k2 k3 k5 newId))
    (hi : W.Looks (model prog w) h (typeLookup (.ref C) "__init__") (some (.ref fI))) (hb : ∀ self, W.Looks (model prog w) h (bindSpecial (.ref fI) self) (.ref fI, [self]))
    (hq : codeAny (model prog w) A (.call (.ref fI) ⟨[.ref (h.objs.size + 1)], kw⟩)
      (fun r s' => match r with | .ok (.ret v) => v = .none ∧ Q (.done (.ret (.ref (h.objs.size + 1)))) s' | .ok _ => False | .error e => E e s')
      ⟨(h.push (W.kdv_tup [])).push (excO C h.objs.size), g, d, t, os⟩) :
    wpAny (model prog w) A (Builtin.«type.__call__» ⟨[.ref C], kw⟩) Q E ⟨h, g, d, t, os⟩ := by
  repeat (first | with_reducible refine wpAny_loadPart_at hC ?_ | with_reducible refine wpAny_madeBy_exc hC ?_ | wp_step)
  refine codeAny_call_builtin_code (Code.quiet_builtin _ F.quiet) (check_new_ownK F hT hC ?_)
  refine new_ownK F hT hC ?_
  show wpAny _ _ _ _ _ _
  have k : ∀ b o, h.get? b = some o → ((h.push (W.kdv_tup [])).push (excO C h.objs.size)).get? b = some o := fun b o e => Heap.get?_push_of_some _ (Heap.get?_push_of_some _ e)
  have hC₁ := k _ _ hC
  have hget : ((h.push (W.kdv_tup [])).push (excO C h.objs.size)).get? (h.objs.size + 1) = some (excO C h.objs.size) := by heap_get
  have hcC : (Value.ref C :: bm).contains (.ref C) = true := by simp
  have i1 := hi.keeps k
  have b1 := (hb (.ref (h.objs.size + 1))).keeps k
  unfold isInstance
  repeat (first | with_reducible refine wpAny_loadPart_at hget ?_ | (with_reducible refine wpAny_isSubtype_exc hC₁ ?_; rw [hcC]) | wp_step)
  show wpAny _ _ (typeLookup (.ref C) _) _ _ _
  refine i1.at ?_
  refine wpAny_holding (wpAny_bind (b1.at ?_))
  refine wpAny_bind (wpAny_call (codeAny_mono hq fun r s' z => ?_))
  rcases r with e | (v | _ | _ | _) <;> first | exact z | exact z.elim | skip
  obtain ⟨rfl, z⟩ := z
  first
    | exact wpAny_pure (wpAny_pure z)
    | (wp_walk; exact z)
theorem call_ownK (F : ExcBaseFacts B newId initId bmB) (hT : ∀ X : String, bm.contains (.type X) = bmB.contains (.type X)) {fI : Addr}
    (hC : h.get? C = some (excClassObj nm q C N bs bm hdct sn sub ab col dd k0 k1 k2 k3 k5 newId))
    (hi : W.Looks (model prog w) h (typeLookup (.ref C) "__init__") (some (.ref fI))) (hb : ∀ self, W.Looks (model prog w) h (bindSpecial (.ref fI) self) (.ref fI, [self]))
    (hq : codeAny (model prog w) (A.under (.builtin "type.__call__" ⟨[.ref C], kw⟩)) (.call (.ref fI) ⟨[.ref (h.objs.size + 1)], kw⟩) (W.InitBack (h.objs.size + 1) R)
      ⟨(h.push (W.kdv_tup [])).push (excO C h.objs.size), g, d, t, os⟩) :
    codeAny (model prog w) A (.call (.ref C) ⟨[], kw⟩) R ⟨h, g, d, t, os⟩ := by
  have f1 := tc_lookup
  have f2 := tc_bind (.ref C)
  have hTy : (⟨h, g, d, t, os⟩ : Shared).TypeIs (.ref C) "type" := ⟨_, hC, rfl⟩
  refine codeAny_of_tree ?_
  show wpAny _ _ (callAny (.ref C) _) _ _ _
  repeat (any_goals (first | assumption | with_reducible refine wpAny_loadPart_at hC ?_ | wp_step))
  refine ⟨rfl, ?_⟩
  refine codeAny_call_builtin_at (Code.quiet_builtin _ (by decide +kernel)) entry_typeCall (wpAny_check_type_call_sub hC (type_call_ownK F hT hC hi hb ?_))
  refine codeAny_mono hq fun r s' z => ?_
  rcases r with e | (v | _ | _ | _) <;> exact z
end
end HandSPX
end PySem
/-! DL108: C(f = e), C an exception class of one's own. -/
namespace DXE
open PySem PySem.Spec PyProof.Rows L2 PySem.W
section
variable {X : Cx} {CX : CXT} {x : Str} {C fI : Addr} {k : Nat} {fd : FuncData} {sf n f : Str} {kws : List Keyword} {tk : TA} {np pos : Pos}
theorem pe_excK (T : OexC X.K C) (iC : findIn X.K (.ref C) "__init__" = some (some (.ref fI))) (tI : typeIn X.K (.ref fI) = some (.type "function")) (F1 : FnOk X.prog X.w X.K X.mg X.base CX k fI fd [sf, n] (spI C f)) (hr : Room (k + 1) X.A)
    (hb : DZ.KwM X.K fd [sf, n] [n] [0]) (hx : Passes CX X (fun _ _ _ => False)) (hg : Gl X x) (hm : X.mg x = some (.ref C)) (hkw : PK X kws tk)
    (hall : (backToKw pos (keywordEach kws X.env)).all (·.1.isSome) = true) (hks : (backToKw pos (keywordEach kws X.env)).filterMap (·.1) = [n]) (hdb : (x == ("__debug__" : Str)) = false)
    (hpl : ((backTo pos (starEach [] X.env)).any (·.1) || (backToKw pos (keywordEach kws X.env)).any (·.1.isNone)) = false) :
    PE X (.Call (.Name x np) [] kws pos) (fun σ H Q => tk σ H fun vs H1 => ∃ v, vs = [v] ∧ ∀ a d, H1 a = none → H1 d = none → d ≠ a → Q (.ref a) (upd (upd H1 d (exd d [(f, v)])) a (exo a C (some d)))) := by
  refine ⟨fun pins s σ H Q I h => ?_⟩
  obtain ⟨nm, q, N, bs, bm, sn, sub, ab, col, dd, k0, k1, k2, k3, k5, hC, hbm⟩ := T.cls
  refine wpAny_Call_Name_kw (ld_glob I hg hm (PySem.W.callWith_KW0 (h₀ := X.base) I.ok.mod.kin T.kC hall (thn (hkw.run pos pins s σ H _ I h) fun us s1 ⟨vs, H1, I1, r1, v, ev, q1⟩ => ⟨I1.kIn, ?_⟩) hpl) hdb)
  subst ev
  rw [hks]
  obtain ⟨u, rfl, ru⟩ := r1.one
  obtain ⟨hp, g, dr, tk', os⟩ := s1
  have hsz : hp.objs.size ≤ hp.objs.size + 1 := Nat.le_succ _
  have hn : H1 (hp.objs.size + 1) = none := I1.hok.fresh hsz
  have kk : ∀ b o, hp.get? b = some o → ((hp.push (PySem.W.kdv_tup [])).push (PySem.HandSPX.excO C hp.objs.size)).get? b = some o := fun b o e => Heap.get?_push_of_some _ (Heap.get?_push_of_some _ e)
  have hget : ((hp.push (PySem.W.kdv_tup [])).push (PySem.HandSPX.excO C hp.objs.size)).get? (hp.objs.size + 1) = some (PySem.HandSPX.excO C hp.objs.size) := by heap_get
  have I2 : Inv X pins σ (upd H1 (hp.objs.size + 1) (exo (hp.objs.size + 1) C none)) ⟨(hp.push (PySem.W.kdv_tup [])).push (PySem.HandSPX.excO C hp.objs.size), g, dr, tk', os⟩ :=
    I1.laid (t' := tk') (a := hp.objs.size + 1) (o := exo (hp.objs.size + 1) C none) (h' := (hp.push (PySem.W.kdv_tup [])).push (PySem.HandSPX.excO C hp.objs.size)) kk hsz (exo_ok hget)
  refine wpAny_call (PySem.HandSPX.call_ownK F.excBase_ValueError (fun Y => PySem.HandSPX.refsVE_contains Y bm hbm) (I1.kIn _ _ hC) (PySem.W.looks_findIn I1.kIn iC) (fun self => PySem.W.bind_fn I1.kIn self tI)
    (codeAny_mono (F1.run _ X.stack _ _ ⟨[Value.ref (hp.objs.size + 1)], ([n] : List Str).zip [u]⟩ [Value.ref (hp.objs.size + 1), u] [V.ref (hp.objs.size + 1), v] (fun z H' => z = .non ∧ Q (.ref (hp.objs.size + 1)) H') (fun _ _ _ => False) (hr.make C [] (([n] : List Str).zip [u])) (I2.env0.make C [] (([n] : List Str).zip [u])) (by
      have := hb _ (Value.ref (hp.objs.size + 1)) [u] I2.kIn rfl
      simpa using this) (.cons rfl (.cons ru .nil)) ⟨_, v, rfl, upd_same, fun d hd hda => ⟨rfl, ?_⟩⟩) fun r s' hq' => ?_))
  · have hd1 : H1 d = none := by rw [upd_ne hda] at hd; exact hd
    have eq : upd (upd (upd H1 (hp.objs.size + 1) (exo (hp.objs.size + 1) C none)) d (exd d [(f, v)])) (hp.objs.size + 1) (exo (hp.objs.size + 1) C (some d)) = upd (upd H1 d (exd d [(f, v)])) (hp.objs.size + 1) (exo (hp.objs.size + 1) C (some d)) := by
      funext b
      by_cases hb2 : b = hp.objs.size + 1
      · rw [hb2, upd_same, upd_same]
      · rw [upd_ne hb2, upd_ne hb2]
        by_cases hbd : b = d
        · rw [hbd, upd_same, upd_same]
        · rw [upd_ne hbd, upd_ne hbd, upd_ne hb2]
    rw [eq]
    exact q1 _ d hn hd1 hda
  · cases r with
    | error er => exact hx pins σ _ _ er s' I2 hq'
    | ok fl =>
      cases fl with
      | ret u =>
        obtain ⟨z, H2, I3, rv, ev, hQ⟩ := I2.after hq'
        subst ev
        exact ⟨rv, .ref _, _, I3, rfl, hQ⟩
      | next => exact False.elim hq'
      | brk => exact False.elim hq'
      | cont => exact False.elim hq'
end
end DXE
namespace DL
open PySem PySem.Spec PyProof.Rows L2
structure RzCK (P : Program) (w : World) (K : PySem.W.Frag) (mg : Str → Option Value) (base : Heap) (c f n : Str) : Prop where
  ex : ∃ fI fd sf, mg c = some (.ref (He.ga K c)) ∧ OexC K (He.ga K c) ∧ PySem.W.findIn K (.ref (He.ga K c)) "__init__" = some (some (.ref fI)) ∧ PySem.W.typeIn K (.ref fI) = some (.type "function") ∧ DZ.KwM K fd [sf, n] [n] [0] ∧ FnOk P w K mg base C8.CX0 0 fI fd [sf, n] (DXE.spI (He.ga K c) f)
section
variable {P : Program} {w : World} {K : PySem.W.Frag} {mg : Str → Option Value} {base : Heap} {file : Str} {d : XcD} {sf n : Str} {p0 p1 p2 p3 p4 p5 p6 p7 p8 p9 : Pos}
open PySem.W in
theorem rzk_of (hf : P.main.file = file) (ht : (P.main.scope.names.lookup ("super" : Str)).isSome = false) (hms : mg "super" = none) (hmx : mg d.x = some (.ref (He.ga K d.x))) (h : xcB K file d.x d.f = true) (e : xcObs K d.x = d.val)
    (hb : d.body = DXE.initB sf n d.f p0 p1 p2 p3 p4 p5 p6 p7 p8 p9) (hce : DXE.CallE n p0 p1 p2 p3 p4) (hp : (d.params.posonlyargs ++ d.params.args).head?.map (·.arg) = some sf)
    (hbi : ∀ (q : Str) (kV doc pm : Value) (an : Option Addr) (cdv ct : Value) (cc : Addr) (us : List Value), us.length = 2 → bindArgs (ksFn "__init__" q d.params d.body d.scope .none kV doc pm an cdv ct cc) ⟨us, []⟩ = pure ([sf, n].zip us))
    (hks : d.scope.names.lookup ("super" : Str) = some .globalImplicit) (hkc : d.scope.names.lookup ("__class__" : Str) = some .free) (hka : d.scope.names.lookup sf = some .local) (hkn : d.scope.names.lookup n = some .local) (hk : d.scope.kind = .function) (hcell : ∀ x ∈ d.scope.names, x.2 ≠ .cell)
    (hco : d.scope.isCoroutine = false) (hgen : d.scope.isGenerator = false) (hsn : sf ≠ n) (hd1 : (sf == ("__debug__" : Str)) = false) (hd2 : (n == ("__debug__" : Str)) = false)
    (hbk : ∀ (q : Str) (kV doc pm : Value) (an : Option Addr) (cdv ct : Value) (cc : Addr) (u v : Value), bindArgs (ksFn "__init__" q d.params d.body d.scope .none kV doc pm an cdv ct cc) ⟨[u], [(n, v)]⟩ = pure [(sf, u), (n, v)]) : RzCK P w K mg base d.x d.f n := by
  obtain ⟨fd, ⟨qual, kV, doc, pm, an, cda, ct, cc, g2⟩, T, hno⟩ := xcB_ok h e hf ht
  have hbn : DZ.KwM K fd [sf, n] [n] [0] := by
    rw [g2]
    intro s u ws hK hl
    match ws, hl with
    | [v], _ => exact .of_eq (hbk _ _ _ _ _ _ _ _ u v)
  rw [hb] at T
  exact ⟨_, fd, sf, hmx, T.oex, T.iC, T.tI, hbn, DXE.init_fn hce T hms hno hp hks hkc hka hkn hk hcell hco hgen hsn hd1 hd2⟩
end
def mExcK (c f : Str) (fa : M Dk (List D)) : M Dk S := fun st g => bnd (fa st g) fun ds st g => match ds with
  | [d] => some (.sh (.obj (g.objs.length + 1 + 4)), st, { g with objs := (g.objs ++ [.xd f d]) ++ [.exc c (some g.objs.length)] })
  | _ => none
section
variable {C : CF} {Fam : Wd Dk → Prop} {lc : Addr} {kws : List Keyword} {fa : M Dk (List D)} {p p1 pos : Pos} {c f n : Str}
theorem d_excK (hF : ∀ W, Fam W → DF ⟨C.K, C.w, lc⟩ W) (T : RzCK C.prog C.w C.K C.mg C.base c f n) (ha : DKs C Fam kws fa) (hk : 1 ≤ C.room := by decide) (hg : ∀ j, Gl (C.X j) c := by intro _; rfl) (hdb : (c == ("__debug__" : Str)) = false := by decide)
    (hall : ∀ j, (backToKw pos (keywordEach kws (C.X j).env)).all (·.1.isSome) = true := by intro _; rfl) (hks : ∀ j, (backToKw pos (keywordEach kws (C.X j).env)).filterMap (·.1) = [n] := by intro _; rfl)
    (hpl : ∀ j, ((backTo pos (starEach [] (C.X j).env)).any (·.1) || (backToKw pos (keywordEach kws (C.X j).env)).any (·.1.isNone)) = false := by intro _; rfl) :
    DE C Fam (.Call (.Name c p) [] kws pos) (mExcK c f fa) := by
  obtain ⟨fI, fd, sf, hga, ox, iC, tI, hb, F1⟩ := T.ex
  obtain ⟨ta, pa, ea⟩ := ha.ex
  refine ⟨_, fun j => DXE.pe_excK (X := C.X j) (CX := C8.CX0) (k := 0) (f := f) (by rw [C.hK]; exact ox) (by rw [C.hK]; exact iC) (by rw [C.hK]; exact tI) (by rw [C.hP, C.hw, C.hK, C.hmg, C.hbase]; exact F1) ((C.hr j).mono hk) (by rw [C.hK]; exact hb) C8.pass0 (hg j) (by rw [C.hmg]; exact hga) (pa j) (hall j) (hks j) hdb (hpl j), fun W hW P₀ H₀ σ st τ ts H g z st' g' Q R h q => ?_⟩
  obtain ⟨ds, st1, g1, e1, h⟩ := bnd_eq h
  split at h
  · rename_i d
    simp only [Option.some.injEq, Prod.mk.injEq] at h; obtain ⟨rfl, rfl, rfl⟩ := h
    refine ea W hW _ _ _ _ _ _ _ _ _ _ _ _ R e1 fun vs H1 P O R1 rp => ?_
    simp only [Reps] at rp
    obtain ⟨v, r, rfl, rv, rfl⟩ := rp
    refine ⟨v, rfl, fun a dd ha hd hda => ?_⟩
    have R2 := R1.newOb (pw := ⟨C.K, C.w, lc⟩) (y := .xd f d) (o := exd dd [(f, v)]) (hF W hW) hd ⟨v, upd_same, rv⟩
    have ha2 : upd H1 dd (exd dd [(f, v)]) a = none := by rw [upd_ne (Ne.symm hda)]; exact ha
    have R3 := R2.newOb (pw := ⟨C.K, C.w, lc⟩) (y := .exc c (some g1.objs.length)) (o := exo a (He.ga C.K c) (some dd)) (hF W hW) ha2 ⟨dd, addOb_at, upd_same⟩
    refine q _ _ ⟨_, O, R3.push ?_⟩
    rw [rep_objN]
    refine ⟨a, ?_, rfl⟩
    have : ({ g1 with objs := g1.objs ++ [.xd f d] } : Dk).objs.length + 4 = g1.objs.length + 1 + 4 := by simp
    rw [← this]
    exact addOb_at
  · cases h
end
end DL
/-! DL109: what the run of the head shows of the exception classes. -/
namespace DL
open PySem PySem.Spec PyProof.Rows L2
structure XH (K : PySem.W.Frag) (cs ts fs : List Str) : Prop where
  all : ∀ c ∈ cs, XfC K (He.ga K c) ∧ ExcC K (He.ga K c) ∧ (∀ t ∈ ts, PySem.W.kitOne K (.ref (He.ga K c)) (.ref (He.ga K t)) = some (isx c t)) ∧ PySem.W.kitOne K (.ref (He.ga K c)) (.type "ValueError") = some (isx c "ValueError") ∧ ∀ f ∈ fs, PySem.W.findIn K (.ref (He.ga K c)) f = some none
def xhB (K : PySem.W.Frag) (cs ts fs : List Str) : Bool := cs.all fun c => xfB K (He.ga K c) && (
  He.eqO (PySem.W.findIn K (.ref (He.ga K c)) "__class__") (some (some (.builtin "object.__class__"))) && (He.eqO (PySem.W.specialIn K (.builtin "object.__class__") "__get__") (some (some (.builtin "getset_descriptor.__get__"))) && (decide (PySem.W.takesIn K (.builtin "object.__class__") = some true) && (
  decide (PySem.W.mroIn K (He.ga K c) (.type "object") = some true) && ((ts.all fun t => decide (PySem.W.kitOne K (.ref (He.ga K c)) (.ref (He.ga K t)) = some (isx c t))) && (decide (PySem.W.kitOne K (.ref (He.ga K c)) (.type "ValueError") = some (isx c "ValueError")) && fs.all fun f => He.eqO (PySem.W.findIn K (.ref (He.ga K c)) f) (some none)))))))
theorem xhB_ok {K : PySem.W.Frag} {cs ts fs : List Str} (h : xhB K cs ts fs = true) : XH K cs ts fs := by
  refine ⟨fun c hc => ?_⟩
  have h := List.all_eq_true.mp h c hc
  simp only [Bool.and_eq_true, decide_eq_true_eq] at h
  obtain ⟨h2, h4, h5, h6, h7, h8, h9, h10⟩ := h
  have x := xfB_ok h2
  refine ⟨x, ⟨x.ga, x.gg, x.exC, x.hdC, He.eqO_ok h4, He.eqO_ok h5, h6, h7⟩, fun t ht => ?_, h9, fun f hf => He.eqO_ok (List.all_eq_true.mp h10 f hf)⟩
  exact of_decide_eq_true (List.all_eq_true.mp h8 t ht)
section
variable {K : PySem.W.Frag} {cs ts fs : List Str} {f t : Str}
theorem XH.xf (h : XH K cs ts fs) (hf : (fs.contains f) = true) : ∀ c ∈ cs, XfC K (He.ga K c) ∧ PySem.W.findIn K (.ref (He.ga K c)) f = some none := fun c hc => ⟨(h.all c hc).1, (h.all c hc).2.2.2.2 f (List.contains_iff_mem.mp hf)⟩
theorem XH.isO (h : XH K cs ts fs) (ht : (ts.contains t) = true) : ∀ c ∈ cs, ExcC K (He.ga K c) ∧ PySem.W.kitOne K (.ref (He.ga K c)) (.ref (He.ga K t)) = some (isx c t) := fun c hc => ⟨(h.all c hc).2.1, (h.all c hc).2.2.1 t (List.contains_iff_mem.mp ht)⟩
theorem XH.isV (h : XH K cs ts fs) : ∀ c ∈ cs, ExcC K (He.ga K c) ∧ PySem.W.kitOne K (.ref (He.ga K c)) (.type "ValueError") = some (isx c "ValueError") := fun c hc => ⟨(h.all c hc).2.1, (h.all c hc).2.2.2.1⟩
end
end DL
namespace DL
open PySem PySem.Spec PyProof.Rows L2
/-! ### the next number -/
noncomputable def B__law_next : M Dk Fl := (mSeq (mWhile (mTest (mOpW rdD opNe (mOpW rdD opIxL (mVar 0) (mC (.int 0))) (mLst mNil))) (mSeq (mSet 5 (mOpW rdD opIxL (mOpW rdD opIxL (mVar 0) (mC (.int 0))) (mC (.int 0)))) (mSeq (mIf (mTest (mOp (opCmp .Gt) (mVar 5) (mC (.int 0)))) (mSeq (mPutW (mOpW rdD opIxL (mVar 0) (mC (.int 0))) (mC (.int 0)) (mOp opFdiv (mVar 5) (mVar 1))) (mRet (mOp opMod (mUn opInt (mVar 5)) (mVar 1)))) mNext) (mDrop (mPopW (mOpW rdD opIxL (mVar 0) (mC (.int 0)))))))) (mSeq (mPutW (mVar 0) (mC (.int 2)) (mOp opAdd (mOpW rdD opIxL (mVar 0) (mC (.int 2))) (mC (.int 1)))) (mSeq (mSet 2 (mOpW rdD opIxL (mVar 0) (mC (.int 2)))) (mSeq (mSet 3 (mOp opMod (mUn opInt (mOpW rdD opIxL (mOpW rdD opIxL (mVar 0) (mC (.int 1))) (mOp opMod (mUn opInt (mVar 2)) (mUnW rdD opLen (mOpW rdD opIxL (mVar 0) (mC (.int 1))))))) (mC (.int 2147483629)))) (mSeq (mSet 4 (mOp opMod (mUn opInt (mOp opAdd (mOp opAdd (mOp opMul (mVar 3) (mOp opAdd (mC (.int 50331)) (mOp opMul (mC (.int 68111)) (mVar 2)))) (mOp opMul (mOp opMul (mC (.int 41287)) (mVar 2)) (mVar 2))) (mC (.int 19)))) (mC (.int 2147483587)))) (mRet (mOp opMod (mOp opFdiv (mOp opMod (mUn opInt (mOp opMul (mVar 4) (mVar 4))) (mC (.int 2147483579))) (mC (.int 16))) (mVar 1))))))))
noncomputable def F__law_next : Fn Dk := mFn 2 6 B__law_next
/-- n draws more are let -/
structure Ok (os : List Ob) (n : Nat) (g : Dk) : Prop where
  ne : g.cells ≠ []
  lo : 0 ≤ g.turn
  hi : g.turn + n ≤ 2 ^ 64
  nl : g.loan = none
  ob : g.objs = os
theorem Ok.mono {os : List Ob} {n m : Nat} {g : Dk} (h : Ok os n g) (hm : m ≤ n) : Ok os m g := ⟨h.ne, h.lo, by have := h.hi; omega, h.nl, h.ob⟩
theorem log2_lt {i : Int} {k : Nat} (h0 : 0 ≤ i) (h : i < 2 ^ k) (hk : 0 < k) : i.natAbs.log2 < k := by
  by_cases e : i = 0
  · subst e; simpa using hk
  · refine (Nat.log2_lt (by omega)).mpr ?_
    have : (i.natAbs : Int) < 2 ^ k := by omega
    exact_mod_cast this
/-- what is drawn -/
def mixed (m : Int) (cells : List Int) (t : Int) : Int :=
  let a := ((atI cells (t % (cells.length : Int))).getD 0) % 2147483629
  let b := (a * (50331 + 68111 * t) + 41287 * t * t + 19) % 2147483587
  (b * b) % 2147483579 / 16 % m
def drawnB (ln : Option (List D) × List Ob) (m : Int) (cells : List Int) (turn : Int) : List Int → Int × Dk
  | [] => (mixed m cells (turn + 1), ⟨[], cells, turn + 1, ln.1, ln.2⟩)
  | x :: r => if 0 < x then (x % m, ⟨x / m :: r, cells, turn, ln.1, ln.2⟩) else drawnB ln m cells turn r
theorem pls_ints : ∀ l : List Int, D.pls (l.map D.int) = true
  | [] => rfl
  | x :: l => by simp [D.pls, D.pl, pls_ints l]
theorem eqv_ints_nil : ∀ l : List Int, PyData.eqv (D.py (.lst (l.map D.int))) (D.py (.lst [])) = l.isEmpty
  | [] => by simp [D.py, D.pys, PyData.eqv, PyData.eqvAll]
  | x :: l => by simp [D.py, D.pys, PyData.eqv, PyData.eqvAll]
theorem ne_big (l : List Int) : opNe (.lst (l.map D.int)) (.lst []) = some (.sh (.bl (!l.isEmpty))) := by
  have h : okEq (.lst (l.map D.int)) (.lst []) = true := by
    simp only [okEq, D.pl, pls_ints, D.pls, Bool.and_true, Bool.true_and, decide_eq_true_eq]
    refine Nat.le_trans (Nat.min_le_right _ _) ?_
    simp [D.py, D.pys, PyData.depth, PyData.depthAll]
  unfold opNe
  rw [if_pos h]
  unfold eqD
  rw [eqv_ints_nil]
theorem atI_zero {α : Type} (x : α) (l : List α) : atI (x :: l) 0 = some x := by simp [atI, ixN]
theorem sz1 : (0 : Nat) ≤ sizeLine := Nat.zero_le _
abbrev nC : M Dk Bool := (mTest (mOpW rdD opNe (mOpW rdD opIxL (mVar 0) (mC (.int 0))) (mLst mNil)))
theorem nC_eq (m : Int) (x2 x3 x4 x5 : Option S) (g : Dk) : nC [some (.sh (.obj 0)), some (.sh (.int m)), x2, x3, x4, x5] g = some (!g.big.isEmpty, [some (.sh (.obj 0)), some (.sh (.int m)), x2, x3, x4, x5], g) := by
  simp only [nC, mTest, mOpW, mVar, mC, mLst, mNil, List.getElem?_cons_zero, bnd_some, peekW, rdD, Option.bind_some, opIxL, atI_zero, Option.map_some, List.length_nil, sz1, if_true, peek, ne_big]
abbrev nB : M Dk Fl := (mSeq (mSet 5 (mOpW rdD opIxL (mOpW rdD opIxL (mVar 0) (mC (.int 0))) (mC (.int 0)))) (mSeq (mIf (mTest (mOp (opCmp .Gt) (mVar 5) (mC (.int 0)))) (mSeq (mPutW (mOpW rdD opIxL (mVar 0) (mC (.int 0))) (mC (.int 0)) (mOp opFdiv (mVar 5) (mVar 1))) (mRet (mOp opMod (mUn opInt (mVar 5)) (mVar 1)))) mNext) (mDrop (mPopW (mOpW rdD opIxL (mVar 0) (mC (.int 0)))))))
theorem cmp_gt (a b : Int) : opCmp .Gt (.int a) (.int b) = some (.sh (.bl (decide (b < a)))) := by
  unfold opCmp
  rw [if_pos (okCmp_int a b)]
  simp only [cmpD, D.py, ltD_int]
theorem nB_eq (ln : Option (List D) × List Ob) (m : Int) (hm : 0 < m) (hl : m.natAbs.log2 < 9000) (x2 x3 x4 x5 : Option S) (x : Int) (r cells : List Int) (turn : Int) : nB [some (.sh (.obj 0)), some (.sh (.int m)), x2, x3, x4, x5] ⟨x :: r, cells, turn, ln.1, ln.2⟩ =
    if 0 < x then some (.rt (.int (x % m)), [some (.sh (.obj 0)), some (.sh (.int m)), x2, x3, x4, some (.sh (.int x))], ⟨x / m :: r, cells, turn, ln.1, ln.2⟩) else some (.nx, [some (.sh (.obj 0)), some (.sh (.int m)), x2, x3, x4, some (.sh (.int x))], ⟨r, cells, turn, ln.1, ln.2⟩) := by
  have hd : okDiv x m = true := by simp [okDiv, hm, hl]
  by_cases h : 0 < x
  · simp [nB, mSeq, mSet, mIf, mTest, mOp, mUn, mRet, mTake, mPutW, mOpW, mVar, mC, peekW, peek, take, rdD, opIxL, atI_zero, cmp_gt, wput, opI2, opInt, hd, hm, h]
  · simp [nB, mSeq, mSet, mIf, mTest, mOp, mUn, mRet, mTake, mDrop, mNext, mPopW, mOpW, mVar, mC, peekW, peek, take, rdD, opIxL, atI_zero, cmp_gt, h]
theorem loop_eq (ln : Option (List D) × List Ob) (m : Int) (hm : 0 < m) (hl : m.natAbs.log2 < 9000) (x2 x3 x4 : Option S) (cells : List Int) (turn : Int) : ∀ (big : List Int) (x5 : Option S),
    (∃ st, mWhile nC nB [some (.sh (.obj 0)), some (.sh (.int m)), x2, x3, x4, x5] ⟨big, cells, turn, ln.1, ln.2⟩ = some (.rt (.int (drawnB ln m cells turn big).1), st, (drawnB ln m cells turn big).2)) ∨
    ∃ y5, mWhile nC nB [some (.sh (.obj 0)), some (.sh (.int m)), x2, x3, x4, x5] ⟨big, cells, turn, ln.1, ln.2⟩ = some (.nx, [some (.sh (.obj 0)), some (.sh (.int m)), x2, x3, x4, y5], ⟨[], cells, turn, ln.1, ln.2⟩) ∧ drawnB ln m cells turn big = drawnB ln m cells turn []
  | [], x5 => by
    refine .inr ⟨x5, mWhile_of (n := 1) ?_, rfl⟩
    unfold whileM
    rw [nC_eq, bnd_some]
    rfl
  | x :: r, x5 => by
    by_cases h : 0 < x
    · left
      refine ⟨[some (.sh (.obj 0)), some (.sh (.int m)), x2, x3, x4, some (.sh (.int x))], mWhile_of (n := 1) ?_⟩
      · unfold whileM
        rw [nC_eq, bnd_some]
        simp only [List.isEmpty_cons, Bool.not_false, if_true]
        rw [nB_eq ln m hm hl, if_pos h, bnd_some]
        simp only [drawnB, if_pos h]
    · have ih := loop_eq ln m hm hl x2 x3 x4 cells turn r (some (.sh (.int x)))
      have step : ∀ res, mWhile nC nB [some (.sh (.obj 0)), some (.sh (.int m)), x2, x3, x4, some (.sh (.int x))] ⟨r, cells, turn, ln.1, ln.2⟩ = some res → mWhile nC nB [some (.sh (.obj 0)), some (.sh (.int m)), x2, x3, x4, x5] ⟨x :: r, cells, turn, ln.1, ln.2⟩ = some res := fun res e => by
        obtain ⟨n, e⟩ := mWhile_eq e
        refine mWhile_of (n := n + 1) ?_
        unfold whileM
        rw [nC_eq, bnd_some]
        simp only [List.isEmpty_cons, Bool.not_false, if_true]
        rw [nB_eq ln m hm hl, if_neg h, bnd_some]
        exact e
      have ed : drawnB ln m cells turn (x :: r) = drawnB ln m cells turn r := by simp only [drawnB, if_neg h]
      rw [ed]
      rcases ih with ⟨st, e⟩ | ⟨y5, e, e2⟩
      · exact .inl ⟨st, step _ e⟩
      · exact .inr ⟨y5, step _ e, e2⟩
theorem okMul_of {a b : Int} {p q : Nat} (ha : 0 ≤ a) (hb : 0 ≤ b) (h1 : a < 2 ^ p) (h2 : b < 2 ^ q) (hp : 0 < p) (hq : 0 < q) (hs : p + q ≤ 1000000) : okMul a b = true := by
  have := log2_lt ha h1 hp
  have := log2_lt hb h2 hq
  simp only [okMul, decide_eq_true_eq]; omega
abbrev nR : M Dk Fl := (mSeq (mPutW (mVar 0) (mC (.int 2)) (mOp opAdd (mOpW rdD opIxL (mVar 0) (mC (.int 2))) (mC (.int 1)))) (mSeq (mSet 2 (mOpW rdD opIxL (mVar 0) (mC (.int 2)))) (mSeq (mSet 3 (mOp opMod (mUn opInt (mOpW rdD opIxL (mOpW rdD opIxL (mVar 0) (mC (.int 1))) (mOp opMod (mUn opInt (mVar 2)) (mUnW rdD opLen (mOpW rdD opIxL (mVar 0) (mC (.int 1))))))) (mC (.int 2147483629)))) (mSeq (mSet 4 (mOp opMod (mUn opInt (mOp opAdd (mOp opAdd (mOp opMul (mVar 3) (mOp opAdd (mC (.int 50331)) (mOp opMul (mC (.int 68111)) (mVar 2)))) (mOp opMul (mOp opMul (mC (.int 41287)) (mVar 2)) (mVar 2))) (mC (.int 19)))) (mC (.int 2147483587)))) (mRet (mOp opMod (mOp opFdiv (mOp opMod (mUn opInt (mOp opMul (mVar 4) (mVar 4))) (mC (.int 2147483579))) (mC (.int 16))) (mVar 1)))))))
theorem atI_map {l : List Int} {i x : Int} (h : atI l i = some x) : atI (l.map D.int) i = some (.int x) := by
  unfold atI at h ⊢
  rw [List.length_map]
  cases e : ixN l.length i with
  | none => rw [e] at h; cases h
  | some j =>
    rw [e] at h
    show (l.map D.int)[j]? = _
    rw [List.getElem?_map]
    have h' : l[j]? = some x := h
    rw [h']; rfl
theorem atI_some {α : Type} {l : List α} {i : Int} (h0 : 0 ≤ i) (h1 : i < l.length) : ∃ x, atI l i = some x ∧ l[i.toNat]? = some x := by
  have hlt : i.toNat < l.length := by omega
  have e : ixN l.length i = some i.toNat := by
    unfold ixN
    rw [if_pos h0, if_pos h1]
  refine ⟨l[i.toNat], ?_, List.getElem?_eq_getElem hlt⟩
  unfold atI
  rw [e]
  exact List.getElem?_eq_getElem hlt
theorem nR_eq (ln : Option (List D) × List Ob) (m : Int) (hm : 0 < m) (x2 x3 x4 x5 : Option S) (big cells : List Int) (turn : Int) (hc : cells ≠ []) (h0 : 0 ≤ turn) (h1 : turn + 1 ≤ 2 ^ 64) :
    ∃ st, nR [some (.sh (.obj 0)), some (.sh (.int m)), x2, x3, x4, x5] ⟨big, cells, turn, ln.1, ln.2⟩ = some (.rt (.int (mixed m cells (turn + 1))), st, ⟨big, cells, turn + 1, ln.1, ln.2⟩) := by
  have hlen : 0 < (cells.length : Int) := by
    have : cells.length ≠ 0 := fun e => hc (List.length_eq_zero_iff.mp e)
    omega
  obtain ⟨x, ex, _⟩ := atI_some (l := cells) (i := (turn + 1) % (cells.length : Int)) (Int.emod_nonneg _ (by omega)) (Int.emod_lt_of_pos _ hlen)
  have ex2 := atI_map ex
  have ha0 : 0 ≤ x % 2147483629 := Int.emod_nonneg _ (by decide)
  have ha1 : x % 2147483629 < 2 ^ 31 := by have := Int.emod_lt_of_pos x (b := 2147483629) (by decide); omega
  have k1 : okMul 68111 (turn + 1) = true := okMul_of (p := 17) (q := 65) (by decide) (by omega) (by decide) (by omega) (by decide) (by decide) (by decide)
  have k2 : okMul (x % 2147483629) (50331 + 68111 * (turn + 1)) = true := okMul_of (p := 31) (q := 83) ha0 (by omega) ha1 (by omega) (by decide) (by decide) (by decide)
  have k3 : okMul 41287 (turn + 1) = true := okMul_of (p := 16) (q := 65) (by decide) (by omega) (by decide) (by omega) (by decide) (by decide) (by decide)
  have k4 : okMul (41287 * (turn + 1)) (turn + 1) = true := okMul_of (p := 82) (q := 65) (by omega) (by omega) (by omega) (by omega) (by decide) (by decide) (by decide)
  have hb0 : 0 ≤ (x % 2147483629 * (50331 + 68111 * (turn + 1)) + 41287 * (turn + 1) * (turn + 1) + 19) % 2147483587 := Int.emod_nonneg _ (by decide)
  have hb1 : (x % 2147483629 * (50331 + 68111 * (turn + 1)) + 41287 * (turn + 1) * (turn + 1) + 19) % 2147483587 < 2 ^ 31 := by
    have := Int.emod_lt_of_pos (x % 2147483629 * (50331 + 68111 * (turn + 1)) + 41287 * (turn + 1) * (turn + 1) + 19) (b := 2147483587) (by decide); omega
  have k5 := okMul_of (p := 31) (q := 31) hb0 hb0 hb1 hb1 (by decide) (by decide) (by decide)
  have a2 : ∀ (a b c : D), atI [a, b, c] 2 = some c := fun a b c => by simp [atI, ixN]
  have a1 : ∀ (a b c : D), atI [a, b, c] 1 = some b := fun a b c => by simp [atI, ixN]
  have kd : ∀ i, okDiv i 16 = true := fun i => by simp [okDiv]; decide
  have lt : ¬ ((cells.length : Int) ≤ 0) := by omega
  refine ⟨[some (.sh (.obj 0)), some (.sh (.int m)), some (.sh (.int (turn + 1))), some (.sh (.int (x % 2147483629))), some (.sh (.int ((x % 2147483629 * (50331 + 68111 * (turn + 1)) + 41287 * (turn + 1) * (turn + 1) + 19) % 2147483587))), x5], ?_⟩
  · simp only [nR, mSeq, mSet, mIf, mTest, mOp, mUn, mUnW, mRet, mTake, mPutW, mOpW, mVar, mC, peekW, peek, take, rdD, opIxL, opLen, a2, a1, wput, opAdd, opMul, opI2, opInt, bnd_some, Option.bind_some, Option.map_some, List.getElem?_cons_zero, List.getElem?_cons_succ, List.set_cons_zero, List.set_cons_succ, List.length_cons, List.length_nil, hm, List.length_map, hlen, decide_true, if_true, ex2, k1, k2, k3, k4, k5, kd, mixed, ex, Option.getD_some,
      show (5 : Nat) < 0 + 1 + 1 + 1 + 1 + 1 + 1 by decide, show (2 : Nat) < 0 + 1 + 1 + 1 + 1 + 1 + 1 by decide, show (3 : Nat) < 0 + 1 + 1 + 1 + 1 + 1 + 1 by decide, show (4 : Nat) < 0 + 1 + 1 + 1 + 1 + 1 + 1 by decide, show (0 : Int) < 2147483629 by decide, show (0 : Int) < 2147483587 by decide, show (0 : Int) < 2147483579 by decide]
theorem mFn_rt {G : Type} {n m : Nat} {b : M G Fl} {ds : List D} {g g' : G} {d : D} {st : Sl} (hl : ds.length = n) (h : b (ds.map (fun d => some (.sh d)) ++ List.replicate (m - n) none) g = some (.rt d, st, g')) : mFn n m b ds g = some (d, g') := by
  unfold mFn
  rw [if_pos hl, h]
/-- the next number, below m -/
theorem next_eq (m : Int) (hm : 0 < m) (hl : m.natAbs.log2 < 9000) (g : Dk) (hc : g.cells ≠ []) (h0 : 0 ≤ g.turn) (h1 : g.turn + 1 ≤ 2 ^ 64) : F__law_next [.obj 0, .int m] g = some (.int (drawnB (g.loan, g.objs) m g.cells g.turn g.big).1, (drawnB (g.loan, g.objs) m g.cells g.turn g.big).2) := by
  obtain ⟨big, cells, turn, l1, l2⟩ := g
  show mFn 2 6 (mSeq (mWhile nC nB) nR) _ _ = _
  rcases loop_eq (l1, l2) m hm hl none none none cells turn big none with ⟨st, e⟩ | ⟨y5, e, e2⟩
  · refine mFn_rt (st := st) rfl ?_
    show mSeq (mWhile nC nB) nR [some (.sh (.obj 0)), some (.sh (.int m)), none, none, none, none] _ = _
    unfold mSeq
    rw [e]; rfl
  · obtain ⟨st, e3⟩ := nR_eq (l1, l2) m hm none none none y5 [] cells turn hc h0 h1
    refine mFn_rt (st := st) rfl ?_
    show mSeq (mWhile nC nB) nR [some (.sh (.obj 0)), some (.sh (.int m)), none, none, none, none] _ = _
    rw [mSeq, e, e2]
    exact e3
theorem drawnB_range (ln : Option (List D) × List Ob) {m : Int} (hm : 0 < m) (cells : List Int) (turn : Int) : ∀ big, 0 ≤ (drawnB ln m cells turn big).1 ∧ (drawnB ln m cells turn big).1 < m ∧ (drawnB ln m cells turn big).2.cells = cells ∧ turn ≤ (drawnB ln m cells turn big).2.turn ∧ (drawnB ln m cells turn big).2.turn ≤ turn + 1 ∧ (drawnB ln m cells turn big).2.loan = ln.1 ∧ (drawnB ln m cells turn big).2.objs = ln.2
  | [] => ⟨Int.emod_nonneg _ (by omega), Int.emod_lt_of_pos _ hm, rfl, by simp only [drawnB]; omega, by simp only [drawnB]; omega, rfl, rfl⟩
  | x :: r => by
    simp only [drawnB]
    split
    · exact ⟨Int.emod_nonneg _ (by omega), Int.emod_lt_of_pos _ hm, rfl, by simp only; omega, by simp only; omega, rfl, rfl⟩
    · exact drawnB_range ln hm cells turn r
theorem next_ok {os : List Ob} {n : Nat} {m : Int} {g : Dk} (h : Ok os (n + 1) g) (hm : 0 < m) (hl : m ≤ 2 ^ 63) : ∃ r g', F__law_next [.obj 0, .int m] g = some (.int r, g') ∧ 0 ≤ r ∧ r < m ∧ Ok os n g' := by
  have hlog : m.natAbs.log2 < 9000 := Nat.lt_of_lt_of_le (log2_lt (k := 64) (by omega) (by omega) (by decide)) (by decide)
  obtain ⟨h1, h2, h3, h4, h5, h6, h7⟩ := drawnB_range (g.loan, g.objs) hm g.cells g.turn g.big
  refine ⟨_, _, next_eq m hm hlog g h.ne h.lo (by have := h.hi; omega), h1, h2, ⟨by rw [h3]; exact h.ne, by have := h.lo; omega, by have := h.hi; omega, by rw [h6]; exact h.nl, by rw [h7]; exact h.ob⟩⟩
theorem deck0_ok (ns : List Int) : Ok [] (2 ^ 63) (deck0 ns) := ⟨by simp [deck0], by simp [deck0], by simp [deck0], rfl, rfl⟩
end DL
namespace DL
open PySem PySem.Spec PyProof.Rows L2
variable {os : List Ob}
noncomputable def B__law_one : M Dk Fl := (mRet (mOp opIx (mVar 1) (mCall F__law_next (mCons (mVar 0) (mCons (mUn opLen (mVar 1)) mNil)))))
noncomputable def F__law_one : Fn Dk := mFn 2 2 B__law_one
theorem getI {α : Type} {l : List α} {i : Int} {x : α} (h : atI l i = some x) : x ∈ l := by
  unfold atI at h
  obtain ⟨j, _, e⟩ := Option.bind_eq_some_iff.mp h
  exact List.mem_of_getElem? e
theorem one_lst {n : Nat} {ds : List D} {g : Dk} (h : Ok os (n + 1) g) (hd : ds ≠ []) (hz : ds.length ≤ 1000) : ∃ d g', F__law_one [.obj 0, .lst ds] g = some (d, g') ∧ d ∈ ds ∧ Ok os n g' := by
  have hp : 0 < ds.length := List.length_pos_iff.mpr hd
  obtain ⟨r, g', e, h0, h1, ok⟩ := next_ok (m := (ds.length : Int)) h (by omega) (by omega)
  obtain ⟨d, e2, _⟩ := atI_some (l := ds) h0 h1
  refine ⟨d, g', mFn_rt (st := [some (.sh (.obj 0)), some (.sh (.lst ds))]) rfl ?_, getI e2, ok⟩
  simp only [B__law_one, mRet, mTake, mOp, mUn, mCall, mCons, mNil, mVar, List.map_cons, List.map_nil, List.cons_append, List.nil_append, List.replicate, List.getElem?_cons_zero, List.getElem?_cons_succ, bnd_some, peek, take, Option.bind_some, Option.map_some, opLen, e, opIx, e2, Nat.sub_self, List.replicate_zero]
/-! ### how the functions run -/
theorem nr {α : Sort u} {a b : α} (h : a = b) : a = b := h
inductive UnitOf {α : Sort u} (k : α) : Type where
  | u
/-- as bnd; simp does not look into what follows -/
def thn {G α β : Type} (x : Option (α × Sl × G)) (k : α → Sl → G → Option β) (u : UnitOf k) : Option β := bnd x k
section
variable {G : Type} {α β : Type} {st : Sl} {g : G} {a b c : M G S} {x y : M G Bool} {p q : M G Fl} {u : M G (List D)} {i j : Nat} {d e : D} {f h : M G α} {op : D → D → Option S} {un : D → Option S} {F : Fn G} {s t : S} {ds : List D}
@[simp] theorem thn_some {a : α} {k : α → Sl → G → Option β} {u : UnitOf k} : thn (some (a, st, g)) k u = k a st g := nr rfl
@[simp] theorem thn_none {k : α → Sl → G → Option β} {u : UnitOf k} : thn (none : Option (α × Sl × G)) k u = none := nr rfl
def kSeq (q : M G Fl) : Fl → Sl → G → Option (Fl × Sl × G)
  | .nx, st, g => q st g
  | .rt d, st, g => some (.rt d, st, g)
  | .bk, st, g => some (.bk, st, g)
  | .ct, st, g => some (.ct, st, g)
@[simp] theorem kSeq_nx : kSeq q .nx st g = q st g := nr rfl
@[simp] theorem kSeq_rt : kSeq q (.rt d) st g = some (.rt d, st, g) := nr rfl
@[simp] theorem kSeq_bk : kSeq q .bk st g = some (.bk, st, g) := nr rfl
@[simp] theorem kSeq_ct : kSeq q .ct st g = some (.ct, st, g) := nr rfl
@[simp] theorem r_seq : mSeq p q st g = thn (p st g) (kSeq q) .u := nr (by unfold mSeq thn; congr 1; funext fl st g; cases fl <;> rfl)
def kRet (d : D) (st : Sl) (g : G) : Option (Fl × Sl × G) := some (.rt d, st, g)
@[simp] theorem kRet_eq : kRet d st g = some (.rt d, st, g) := nr rfl
@[simp] theorem r_ret : mRet a st g = thn (mTake a st g) kRet .u := nr rfl
def kDrop (_ : S) (st : Sl) (g : G) : Option (Fl × Sl × G) := some (.nx, st, g)
@[simp] theorem kDrop_eq : kDrop s st g = some (.nx, st, g) := nr rfl
@[simp] theorem r_drop : mDrop a st g = thn (a st g) kDrop .u := nr rfl
@[simp] theorem r_next : (mNext : M G Fl) st g = some (.nx, st, g) := nr rfl
def kTake (x : S) (st : Sl) (g : G) : Option (D × Sl × G) := (take x st).map fun p => (p.1, p.2, g)
def kAtT (i : Nat) (st : Sl) (g : G) : Option (Option S) → Option (D × Sl × G)
  | some (some (.sh d)) => some (d, st, g)
  | some (some (.ow d)) => some (d, st.set i (some (.sh d)), g)
  | _ => none
@[simp] theorem kTake_sh : kTake (.sh d) st g = some (d, st, g) := nr rfl
@[simp] theorem kTake_ow : kTake (.ow d) st g = some (d, st, g) := nr rfl
@[simp] theorem kTake_at : kTake (.at i) st g = kAtT i st g st[i]? := nr (by
  show ((match st[i]? with | some (some (.sh d)) => some (d, st) | some (some (.ow d)) => some (d, st.set i (some (.sh d))) | _ => none : Option (D × Sl)).map fun p => (p.1, p.2, g)) = kAtT i st g st[i]?
  generalize st[i]? = o
  exact match o with
    | none => rfl
    | some none => rfl
    | some (some s) => by cases s <;> rfl)
@[simp] theorem kAtT_sh : kAtT i st g (some (some (.sh d))) = some (d, st, g) := nr rfl
@[simp] theorem kAtT_ow : kAtT i st g (some (some (.ow d))) = some (d, st.set i (some (.sh d)), g) := nr rfl
@[simp] theorem r_take : mTake a st g = thn (a st g) kTake .u := nr rfl
def kSet (i : Nat) (x : S) (st : Sl) (g : G) : Option (Fl × Sl × G) := if i < st.length then (match x with | .sh d => some (.nx, st.set i (some (.sh d)), g) | .ow d => some (.nx, st.set i (some (.ow d)), g) | .at j => (take (.at j) st).map fun p => (.nx, p.2.set i (some (.sh p.1)), g) | .any => none) else none
def kSetD (i : Nat) (d : D) (st : Sl) (g : G) : Option (Fl × Sl × G) := some (.nx, st.set i (some (.sh d)), g)
@[simp] theorem kSetD_eq : kSetD i d st g = some (.nx, st.set i (some (.sh d)), g) := nr rfl
@[simp] theorem kSet_sh : kSet i (.sh d) st g = if i < st.length then some (.nx, st.set i (some (.sh d)), g) else none := nr rfl
@[simp] theorem kSet_ow : kSet i (.ow d) st g = if i < st.length then some (.nx, st.set i (some (.ow d)), g) else none := nr rfl
@[simp] theorem kSet_at : kSet i (.at j) st g = if i < st.length then thn (kTake (.at j) st g) (kSetD i) .u else none := nr (by
  unfold kSet kTake thn
  simp only
  cases take (.at j) st <;> rfl)
@[simp] theorem r_set : mSet i a st g = thn (a st g) (kSet i) .u := nr rfl
def kIf (f h : M G α) : Bool → Sl → G → Option (α × Sl × G)
  | true, st, g => f st g
  | false, st, g => h st g
@[simp] theorem kIf_t : kIf f h true st g = f st g := nr rfl
@[simp] theorem kIf_f : kIf f h false st g = h st g := nr rfl
@[simp] theorem kIf_d {P : Prop} [Decidable P] : kIf f h (decide P) st g = if P then f st g else h st g := by by_cases e : P <;> simp [e]
@[simp] theorem kIf_n {b : Bool} : kIf f h (!b) st g = kIf h f b st g := by cases b <;> simp
@[simp] theorem r_if : mIf x f h st g = thn (x st g) (kIf f h) .u := nr (by unfold mIf thn; congr 1; funext b st g; cases b <;> rfl)
@[simp] theorem r_and : mAnd x y st g = thn (x st g) (kIf y (fun st g => some (false, st, g))) .u := nr (by unfold mAnd thn; congr 1; funext b st g; cases b <;> rfl)
@[simp] theorem r_or : mOr x y st g = thn (x st g) (kIf (fun st g => some (true, st, g)) y) .u := nr (by unfold mOr thn; congr 1; funext b st g; cases b <;> rfl)
def kNot (b : Bool) (st : Sl) (g : G) : Option (Bool × Sl × G) := some (!b, st, g)
@[simp] theorem kNot_eq {b : Bool} : kNot b st g = some (!b, st, g) := nr rfl
@[simp] theorem r_not : mNot x st g = thn (x st g) kNot .u := nr rfl
def kOfB (b : Bool) (st : Sl) (g : G) : Option (S × Sl × G) := some (.sh (.bl b), st, g)
@[simp] theorem kOfB_eq {b : Bool} : kOfB b st g = some (.sh (.bl b), st, g) := nr rfl
@[simp] theorem r_ofB : mOfB x st g = thn (x st g) kOfB .u := nr rfl
@[simp] theorem r_andV : mAndV a b st g = thn (mTest a st g) (kIf b (mC (.bl false))) .u := nr (by unfold mAndV; exact r_if)
@[simp] theorem r_orV : mOrV a b st g = thn (mTest a st g) (kIf (mC (.bl true)) b) .u := nr (by unfold mOrV; exact r_if)
def kTest : S → Sl → G → Option (Bool × Sl × G)
  | .sh (.bl b), st, g => some (b, st, g)
  | _, _, _ => none
@[simp] theorem kTest_bl {b : Bool} : kTest (.sh (.bl b)) st g = some (b, st, g) := nr rfl
@[simp] theorem r_test : mTest a st g = thn (a st g) kTest .u := nr (by
  unfold mTest thn; congr 1; funext s st g
  cases s with
  | sh d => cases d <;> rfl
  | _ => rfl)
@[simp] theorem r_c : (mC d : M G S) st g = some (.sh d, st, g) := nr rfl
def kVar (i : Nat) (st : Sl) (g : G) : Option (Option S) → Option (S × Sl × G)
  | some (some (.sh d)) => some (.sh d, st, g)
  | some (some (.ow _)) => some (.at i, st, g)
  | _ => none
@[simp] theorem kVar_sh : kVar i st g (some (some (.sh d))) = some (.sh d, st, g) := nr rfl
@[simp] theorem kVar_ow : kVar i st g (some (some (.ow d))) = some (.at i, st, g) := nr rfl
@[simp] theorem r_var : (mVar i : M G S) st g = kVar i st g st[i]? := nr (by
  show (match st[i]? with | some (some (.sh d)) => some (.sh d, st, g) | some (some (.ow _)) => some (.at i, st, g) | _ => none) = kVar i st g st[i]?
  generalize st[i]? = o
  exact match o with
    | none => rfl
    | some none => rfl
    | some (some s) => by cases s <;> rfl)
/-- what is seen -/
def kRes (s : Option S) (st : Sl) (g : G) : Option (S × Sl × G) := s.map fun z => (z, st, g)
@[simp] theorem kRes_some : kRes (some s) st g = some (s, st, g) := nr rfl
@[simp] theorem kRes_none : kRes none st g = none := nr rfl
@[simp] theorem kRes_ite {P : Prop} [Decidable P] {z w : Option S} : kRes (if P then z else w) st g = if P then kRes z st g else kRes w st g := by by_cases e : P <;> simp [e]
@[simp] theorem kRes_map {z : Option D} : kRes (z.map S.sh) st g = match z with | some d => some (.sh d, st, g) | none => none := by cases z <;> rfl
def kOp2 (op : D → D → Option S) (dx : D) (st : Sl) (g : G) : Option D → Option (S × Sl × G)
  | some dy => kRes (op dx dy) st g
  | none => none
def kOp1 (op : D → D → Option S) (y : S) (st : Sl) (g : G) : Option D → Option (S × Sl × G)
  | some dx => kOp2 op dx st g (peek y st)
  | none => none
@[simp] theorem kOp2_some : kOp2 op d st g (some e) = kRes (op d e) st g := nr rfl
@[simp] theorem kOp1_some : kOp1 op t st g (some d) = kOp2 op d st g (peek t st) := nr rfl
def kOpB (op : D → D → Option S) (x y : S) (st : Sl) (g : G) : Option (S × Sl × G) := kOp1 op y st g (peek x st)
@[simp] theorem kOpB_eq : kOpB op s t st g = kOp1 op t st g (peek s st) := nr rfl
def kOpA (op : D → D → Option S) (b : M G S) (x : S) (st : Sl) (g : G) : Option (S × Sl × G) := thn (b st g) (kOpB op x) .u
@[simp] theorem kOpA_eq : kOpA op b s st g = thn (b st g) (kOpB op s) .u := nr rfl
@[simp] theorem r_op : mOp op a b st g = thn (a st g) (kOpA op b) .u := nr (by
  unfold mOp thn kOpA; congr 1; funext x st g
  unfold thn; congr 1; funext y st g
  unfold kOpB kOp1 kOp2 kRes
  cases peek x st with
  | none => rfl
  | some dx => cases peek y st <;> rfl)
def kUn1 (un : D → Option S) (st : Sl) (g : G) : Option D → Option (S × Sl × G)
  | some d => kRes (un d) st g
  | none => none
@[simp] theorem kUn1_some : kUn1 un st g (some d) = kRes (un d) st g := nr rfl
def kUn (un : D → Option S) (x : S) (st : Sl) (g : G) : Option (S × Sl × G) := kUn1 un st g (peek x st)
@[simp] theorem kUn_eq : kUn un s st g = kUn1 un st g (peek s st) := nr rfl
@[simp] theorem r_un : mUn un a st g = thn (a st g) (kUn un) .u := nr (by
  unfold mUn thn; congr 1; funext x st g
  unfold kUn kUn1 kRes
  cases peek x st <;> rfl)
@[simp] theorem r_nil : (mNil : M G (List D)) st g = some ([], st, g) := nr rfl
def kCons2 (d : D) (ds : List D) (st : Sl) (g : G) : Option (List D × Sl × G) := some (d :: ds, st, g)
@[simp] theorem kCons2_eq : kCons2 d ds st g = some (d :: ds, st, g) := nr rfl
def kCons (u : M G (List D)) (d : D) (st : Sl) (g : G) : Option (List D × Sl × G) := thn (u st g) (kCons2 d) .u
@[simp] theorem kCons_eq : kCons u d st g = thn (u st g) (kCons2 d) .u := nr rfl
@[simp] theorem r_cons : mCons a u st g = thn (mTake a st g) (kCons u) .u := nr rfl
def kTup (ds : List D) (st : Sl) (g : G) : Option (S × Sl × G) := if ds.length ≤ sizeLine then some (.sh (.tup ds), st, g) else none
@[simp] theorem kTup_eq : kTup ds st g = if ds.length ≤ sizeLine then some (.sh (.tup ds), st, g) else none := nr rfl
@[simp] theorem r_tup : mTup u st g = thn (u st g) kTup .u := nr rfl
def kLst (ds : List D) (st : Sl) (g : G) : Option (S × Sl × G) := if ds.length ≤ sizeLine then some (.ow (.lst ds), st, g) else none
@[simp] theorem kLst_eq : kLst ds st g = if ds.length ≤ sizeLine then some (.ow (.lst ds), st, g) else none := nr rfl
@[simp] theorem r_lst : mLst u st g = thn (u st g) kLst .u := nr rfl
def kOut (st : Sl) : Option (D × G) → Option (S × Sl × G)
  | some p => some (.sh p.1, st, p.2)
  | none => none
@[simp] theorem kOut_some : kOut st (some (d, g)) = some (.sh d, st, g) := nr rfl
def kCall (F : Fn G) (ds : List D) (st : Sl) (g : G) : Option (S × Sl × G) := kOut st (F ds g)
@[simp] theorem kCall_eq : kCall F ds st g = kOut st (F ds g) := nr rfl
@[simp] theorem r_call : mCall F u st g = thn (u st g) (kCall F) .u := nr (by
  unfold mCall thn; congr 1; funext ds st g
  unfold kCall kOut
  cases F ds g <;> rfl)
def kSl2 (l h : Option Int) (st : Sl) (g : G) : Option D → Option (S × Sl × G)
  | some d => kRes (opSl d l h) st g
  | none => none
@[simp] theorem kSl2_some {l h : Option Int} : kSl2 l h st g (some d) = kRes (opSl d l h) st g := nr rfl
def kSl1 (x : S) (l h : Option Int) (st : Sl) (g : G) : Option (S × Sl × G) := kSl2 l h st g (peek x st)
@[simp] theorem kSl1_eq {l h : Option Int} : kSl1 s l h st g = kSl2 l h st g (peek s st) := nr rfl
def kSl0 (fh : M G (Option Int)) (x : S) (l : Option Int) (st : Sl) (g : G) : Option (S × Sl × G) := thn (fh st g) (kSl1 x l) .u
@[simp] theorem kSl0_eq {fh : M G (Option Int)} {l : Option Int} : kSl0 fh s l st g = thn (fh st g) (kSl1 s l) .u := nr rfl
def kSl (fl fh : M G (Option Int)) (x : S) (st : Sl) (g : G) : Option (S × Sl × G) := thn (fl st g) (kSl0 fh x) .u
@[simp] theorem kSl_eq {fl fh : M G (Option Int)} : kSl fl fh s st g = thn (fl st g) (kSl0 fh s) .u := nr rfl
@[simp] theorem r_sl {l h : M G (Option Int)} : mSl a l h st g = thn (a st g) (kSl l h) .u := nr (by
  unfold mSl thn kSl; congr 1; funext x st g
  unfold thn kSl0; congr 1; funext l st g
  unfold thn kSl1 kSl2 kRes; congr 1; funext h st g
  cases peek x st <;> rfl)
@[simp] theorem r_noP : (mNoP : M G (Option Int)) st g = some (none, st, g) := nr rfl
def kPart : S → Sl → G → Option (Option Int × Sl × G)
  | .sh (.int i), st, g => some (some i, st, g)
  | _, _, _ => none
@[simp] theorem kPart_int {i : Int} : kPart (.sh (.int i)) st g = some (some i, st, g) := nr rfl
@[simp] theorem r_part : mPart a st g = thn (a st g) kPart .u := nr (by
  unfold mPart thn; congr 1; funext s st g
  cases s with
  | sh d => cases d <;> rfl
  | _ => rfl)
@[simp] theorem r_dnew : (mDNew : M G S) st g = some (.ow (.dct []), st, g) := nr rfl
@[simp] theorem r_yes : (mYes : M G Bool) st g = some (true, st, g) := nr rfl
def kHold (x : S) (st : Sl) (g : G) : Option (S × Sl × G) := (hold x st).map fun p => (p.1, p.2, g)
def kHoldD (d : D) (st : Sl) (g : G) : Option (S × Sl × G) := some (.sh d, st, g)
@[simp] theorem kHoldD_eq : kHoldD d st g = some (.sh d, st, g) := nr rfl
@[simp] theorem kHold_sh : kHold (.sh d) st g = some (.sh d, st, g) := nr rfl
@[simp] theorem kHold_ow : kHold (.ow d) st g = some (.ow d, st, g) := nr rfl
@[simp] theorem kHold_at : kHold (.at i) st g = thn (kTake (.at i) st g) kHoldD .u := nr (by
  unfold kHold kTake thn hold
  simp only
  cases take (.at i) st <;> rfl)
@[simp] theorem r_hold : mHold a st g = thn (a st g) kHold .u := nr rfl
def kPar2 (i j : Nat) (x y : S) (st : Sl) (g : G) : Option (Fl × Sl × G) := if i < st.length ∧ j < st.length then some (.nx, (st.set j (some y)).set i (some x), g) else none
@[simp] theorem kPar2_eq : kPar2 i j s t st g = if i < st.length ∧ j < st.length then some (.nx, (st.set j (some t)).set i (some s), g) else none := nr rfl
def kPar (i j : Nat) (b : M G S) (x : S) (st : Sl) (g : G) : Option (Fl × Sl × G) := thn (mHold b st g) (kPar2 i j x) .u
@[simp] theorem kPar_eq : kPar i j b s st g = thn (mHold b st g) (kPar2 i j s) .u := nr rfl
@[simp] theorem r_par : mPar i j a b st g = thn (mHold a st g) (kPar i j b) .u := nr rfl
def kLc2 (vs : List Nat) (acc : List D) (st : Sl) (g : G) : Option (S × Sl × G) := some (.ow (.lst acc), wipeS st vs, g)
@[simp] theorem kLc2_eq {vs : List Nat} : kLc2 vs ds st g = some (.ow (.lst ds), wipeS st vs, g) := nr rfl
def kLc (t : Pt) (vs : List Nat) (x : M G Bool) (a : M G S) (z : List D × List S) (st : Sl) (g : G) : Option (S × Sl × G) := thn (compM t vs x a z.1 [] st g) (kLc2 vs) .u
@[simp] theorem kLc_eq {t : Pt} {vs : List Nat} {z : List D × List S} : kLc t vs x a z st g = thn (compM t vs x a z.1 [] st g) (kLc2 vs) .u := nr rfl
@[simp] theorem r_lc {s : M G (List D × List S)} {t : Pt} {vs : List Nat} : mLc s t vs x a st g = thn (s st g) (kLc t vs x a) .u := nr rfl
def kFor (t : Pt) (p : M G Fl) (z : List D × List S) (st : Sl) (g : G) : Option (Fl × Sl × G) := forM t p z.1 st g
@[simp] theorem kFor_eq {t : Pt} {z : List D × List S} : kFor t p z st g = forM t p z.1 st g := nr rfl
@[simp] theorem r_for {s : M G (List D × List S)} {t : Pt} : mFor s t p st g = thn (s st g) (kFor t p) .u := nr rfl
def kSeqS : D → Sl → G → Option ((List D × List S) × Sl × G)
  | .lst ds, st, g => some ((ds, [.sh (.lst ds)]), st, g)
  | .tup ds, st, g => some ((ds, [.sh (.tup ds)]), st, g)
  | .str x, st, g => if x.cps.size ≤ sizeLine then some ((chars x, []), st, g) else none
  | _, _, _ => none
@[simp] theorem kSeqS_lst : kSeqS (.lst ds) st g = some ((ds, [.sh (.lst ds)]), st, g) := nr rfl
@[simp] theorem kSeqS_tup : kSeqS (.tup ds) st g = some ((ds, [.sh (.tup ds)]), st, g) := nr rfl
@[simp] theorem kSeqS_str {x : Str} : kSeqS (.str x) st g = if x.cps.size ≤ sizeLine then some ((chars x, []), st, g) else none := nr rfl
@[simp] theorem r_srcSeq : srcSeq a st g = thn (mTake a st g) kSeqS .u := nr (by
  unfold srcSeq thn; congr 1; funext d st g
  cases d <;> rfl)
def okR (j : Int) : Bool := decide (-(2 ^ 62) ≤ j ∧ j < 2 ^ 62 ∧ j.toNat ≤ sizeLine)
def rngD (d : D) (st : Sl) (g : G) : Option ((List D × List S) × Sl × G) := match d with
  | .int j => if okR j = true then some ((rangeD 0 j.toNat, []), st, g) else none
  | _ => none
@[simp] theorem r_srcR : srcRange1 a st g = thn (mTake a st g) rngD .u := nr (by
  unfold srcRange1 thn rngD okR
  congr 1
  funext d st g
  cases d <;> simp only [decide_eq_true_eq])
@[simp] theorem rngD_int {j : Int} (h : okR j = true) : rngD (.int j) st g = some ((rangeD 0 j.toNat, []), st, g) := by simp only [rngD, h, if_true]
theorem okR_of {j : Int} (h0 : -1000 ≤ j) (h1 : j ≤ 1000) : okR j = true := by
  simp only [okR, decide_eq_true_eq]
  exact ⟨by omega, by omega, by rw [sizeLine_eq]; omega⟩
@[simp] theorem opSl_tup {ds : List D} {l h : Option Int} : opSl (.tup ds) l h = some (.sh (.tup (cutD ds l h))) := nr rfl
@[simp] theorem opSl_lst {ds : List D} {l h : Option Int} : opSl (.lst ds) l h = some (.ow (.lst (cutD ds l h))) := nr rfl
@[simp] theorem opTuple_tup {ds : List D} : opTuple (.tup ds) = some (.sh (.tup ds)) := nr rfl
@[simp] theorem opTuple_lst {ds : List D} : opTuple (.lst ds) = some (.sh (.tup ds)) := nr rfl
@[simp] theorem opList_tup {ds : List D} : opList (.tup ds) = some (.ow (.lst ds)) := nr rfl
@[simp] theorem opList_lst {ds : List D} : opList (.lst ds) = some (.ow (.lst ds)) := nr rfl
@[simp] theorem opLen_tup {ds : List D} : opLen (.tup ds) = some (.sh (.int ds.length)) := nr rfl
@[simp] theorem opLen_lst {ds : List D} : opLen (.lst ds) = some (.sh (.int ds.length)) := nr rfl
@[simp] theorem opAdd_int {a b : Int} : opAdd (.int a) (.int b) = some (.sh (.int (a + b))) := nr rfl
@[simp] theorem opIx_lst {ds : List D} {i : Int} : opIx (.lst ds) (.int i) = (atI ds i).map S.sh := nr rfl
@[simp] theorem opIx_tup {ds : List D} {i : Int} : opIx (.tup ds) (.int i) = (atI ds i).map S.sh := nr rfl
@[simp] theorem opIx_str {kvs : List (D × D)} {k : Str} : opIx (.dct kvs) (.str k) = (dlook kvs (.str k)).map S.sh := nr rfl
@[simp] theorem at0 {α : Type} {x : α} {l : List α} : atI (x :: l) 0 = some x := by simp [atI, ixN]
@[simp] theorem at1 {α : Type} {x y : α} {l : List α} : atI (x :: y :: l) 1 = some y := by
  have : (1 : Int) < ((x :: y :: l).length : Int) := by simp only [List.length_cons]; omega
  simp only [atI, ixN, this, if_true]
  rfl
@[simp] theorem pk_sh : peek (.sh d) st = some d := nr rfl
@[simp] theorem pk_ow : peek (.ow d) st = some d := nr rfl
@[simp] theorem tk_sh : take (.sh d) st = some (d, st) := nr rfl
@[simp] theorem tk_ow : take (.ow d) st = some (d, st) := nr rfl
@[simp] theorem hd_sh : hold (.sh d) st = some (.sh d, st) := nr rfl
@[simp] theorem hd_ow : hold (.ow d) st = some (.ow d, st) := nr rfl
@[simp] theorem pk_at : peek (.at i) st = match st[i]? with
    | some (some (.sh d)) => some d
    | some (some (.ow d)) => some d
    | _ => none := nr rfl
@[simp] theorem tk_at : take (.at i) st = match st[i]? with
    | some (some (.sh d)) => some (d, st)
    | some (some (.ow d)) => some (d, st.set i (some (.sh d)))
    | _ => none := nr rfl
@[simp] theorem hd_at : hold (.at i) st = (take (.at i) st).map fun p => (.sh p.1, p.2) := nr rfl
theorem le_sz {n : Nat} (h : n ≤ 10000) : n ≤ sizeLine := by rw [sizeLine_eq]; omega
end
end DL
namespace DL
open PySem PySem.Spec PyProof.Rows L2
variable {os : List Ob}
/-! ### texts -/
abbrev tx (l : List Str) : List D := l.map D.str
theorem Asc.take {l : List D} (h : Asc l) (n : Nat) : Asc (l.take n) := List.Pairwise.sublist (List.take_sublist n l) h
/-! ### dials -/
theorem rangeD_len (lo : Int) (n : Nat) : (rangeD lo n).length = n := by simp [rangeD]
/-! ### schemes -/
end DL
namespace DL
open PySem PySem.Spec PyProof.Rows L2
/-! ### dicts with texts as keys -/
def kvE (kvs : List (Str × D)) : List (D × D) := kvs.map fun p => (D.str p.1, p.2)
@[simp] theorem kvE_len (kvs : List (Str × D)) : (kvE kvs).length = kvs.length := by simp [kvE]
/-! ### _law_scheme -/
def hE (kvs : List (Str × List Str)) : List (Str × D) := kvs.map fun p => (p.1, D.tup (tx p.2))
@[simp] theorem hE_len (kvs : List (Str × List Str)) : (hE kvs).length = kvs.length := by simp [hE]
end DL
namespace DL
open PySem PySem.Spec PyProof.Rows L2
end DL
namespace DL
open PySem PySem.Spec PyProof.Rows L2
variable {os : List Ob}
/-! ### texts in tuples of texts -/
theorem eqv_str (a b : Str) : PyData.eqv (.str a) (.str b) = decide (a = b) := by
  simp [PyData.eqv]
  rfl
theorem opNe_str (a b : Str) : opNe (.str a) (.str b) = some (.sh (.bl (!decide (a = b)))) := by
  have : okEq (.str a) (.str b) = true := by simp [okEq, D.pl, D.py, PyData.depth]
  simp only [opNe, this, if_true, eqD, D.py, eqv_str]
theorem opEq_int (a b : Int) : opEq (.int a) (.int b) = some (.sh (.bl (decide (a = b)))) := by
  have : okEq (.int a) (.int b) = true := by simp [okEq, D.pl, D.py, PyData.depth]
  have e : PyData.eqv (.int a) (.int b) = decide (a = b) := by simp [PyData.eqv]; rfl
  simp only [opEq, this, if_true, eqD, D.py, e]
/-! ### frames -/
end DL
namespace DL
open PySem PySem.Spec PyProof.Rows L2
/-! ### columns of frames -/
/-! the program's -/
end DL
namespace DL
open PySem PySem.Spec PyProof.Rows L2
section
variable {G : Type} {st : Sl} {g : G} {a b c : M G S} {f f' : D → D → Option S} {s t : S} {d e : D}
def kCh3 (f' : D → D → Option S) (c : M G S) (y : S) (st : Sl) (g : G) : Option S → Option (S × Sl × G)
  | some (.sh (.bl true)) => thn (c st g) (kOpB f' y) .u
  | some (.sh (.bl false)) => some (.sh (.bl false), st, g)
  | _ => none
@[simp] theorem kCh3_t : kCh3 f' c t st g (some (.sh (.bl true))) = thn (c st g) (kOpB f' t) .u := nr rfl
@[simp] theorem kCh3_f : kCh3 f' c t st g (some (.sh (.bl false))) = some (.sh (.bl false), st, g) := nr rfl
@[simp] theorem kCh3_d {P : Prop} [Decidable P] : kCh3 f' c t st g (some (.sh (.bl (decide P)))) = if P then thn (c st g) (kOpB f' t) .u else some (.sh (.bl false), st, g) := by by_cases h : P <;> simp [h]
@[simp] theorem kCh3_n {P : Prop} [Decidable P] : kCh3 f' c t st g (some (.sh (.bl (!decide P)))) = if P then some (.sh (.bl false), st, g) else thn (c st g) (kOpB f' t) .u := by by_cases h : P <;> simp [h]
def kCh2 (f f' : D → D → Option S) (c : M G S) (y : S) (dx : D) (st : Sl) (g : G) : Option D → Option (S × Sl × G)
  | some dy => kCh3 f' c y st g (f dx dy)
  | none => none
@[simp] theorem kCh2_some : kCh2 f f' c t d st g (some e) = kCh3 f' c t st g (f d e) := nr rfl
def kCh1 (f f' : D → D → Option S) (c : M G S) (y : S) (st : Sl) (g : G) : Option D → Option (S × Sl × G)
  | some dx => kCh2 f f' c y dx st g (peek y st)
  | none => none
@[simp] theorem kCh1_some : kCh1 f f' c t st g (some d) = kCh2 f f' c t d st g (peek t st) := nr rfl
def kChB (f f' : D → D → Option S) (c : M G S) (x y : S) (st : Sl) (g : G) : Option (S × Sl × G) := kCh1 f f' c y st g (peek x st)
@[simp] theorem kChB_eq : kChB f f' c s t st g = kCh1 f f' c t st g (peek s st) := nr rfl
def kChA (f f' : D → D → Option S) (b c : M G S) (x : S) (st : Sl) (g : G) : Option (S × Sl × G) := thn (b st g) (kChB f f' c x) .u
@[simp] theorem kChA_eq : kChA f f' b c s st g = thn (b st g) (kChB f f' c s) .u := nr rfl
@[simp] theorem r_chain : mChain f f' a b c st g = thn (a st g) (kChA f f' b c) .u := nr (by
  unfold mChain thn kChA; congr 1; funext x st g
  unfold thn; congr 1; funext y st g
  unfold kChB kCh1 kCh2
  cases peek x st with
  | none => rfl
  | some dx =>
    cases e : peek y st with
    | none => rfl
    | some dy =>
      simp only [Option.bind_some]
      cases f dx dy with
      | none => rfl
      | some z =>
        simp only [Option.bind_some]
        unfold kCh3
        cases z with
        | sh d =>
          cases d with
          | bl b =>
            cases b with
            | false => rfl
            | true =>
              show bnd _ _ = bnd _ _
              congr 1
              funext w st g
              unfold kOpB kOp1 kOp2 kRes
              cases peek y st with
              | none => rfl
              | some d1 => cases peek w st <;> rfl
          | _ => rfl
        | _ => rfl)
end
/-! ### names -/
/-! ### data that may be looked at -/
end DL
namespace DL
open PySem PySem.Spec PyProof.Rows L2
/-! ### how a run goes on -/
section
variable {G : Type} {st : Sl} {g : G} {a b c : M G S} {u : M G (List D)} {s t : S} {d e : D} {ds : List D} {i j : Nat} {F : Fn G} {pm : List Nat} {p : Pt}
def kShr (d : D) (st : Sl) (g : G) : Option (S × Sl × G) := some (.sh d, st, g)
@[simp] theorem kShr_eq : kShr d st g = some (.sh d, st, g) := nr rfl
@[simp] theorem r_shr : mShr a st g = thn (mTake a st g) kShr .u := nr rfl
def kCallK (pm : List Nat) (F : Fn G) (ds : List D) (st : Sl) (g : G) : Option (S × Sl × G) := kOut st (F (permD pm ds) g)
@[simp] theorem kCallK_eq : kCallK pm F ds st g = kOut st (F (permD pm ds) g) := nr rfl
@[simp] theorem r_callK : mCallK pm F u st g = thn (u st g) (kCallK pm F) .u := nr (by
  unfold mCallK thn; congr 1; funext ds st g
  unfold kCallK kOut
  cases F (permD pm ds) g <;> rfl)
@[simp] theorem permD_nil : permD [] ds = [] := nr rfl
@[simp] theorem permD_cons : permD (i :: pm) ds = ds.getD i .non :: permD pm ds := nr rfl
def kUnp1 (g : G) : Option Sl → Option (Fl × Sl × G)
  | some st => some (.nx, st, g)
  | none => none
@[simp] theorem kUnp1_some : kUnp1 g (some st) = some (.nx, st, g) := nr rfl
def kUnp (p : Pt) (d : D) (st : Sl) (g : G) : Option (Fl × Sl × G) := kUnp1 g (asg p d st)
@[simp] theorem kUnp_eq : kUnp p d st g = kUnp1 g (asg p d st) := nr rfl
@[simp] theorem r_unp : mUnp p a st g = thn (mTake a st g) (kUnp p) .u := nr (by
  unfold mUnp thn; congr 1; funext d st g
  unfold kUnp kUnp1
  cases asg p d st <;> rfl)
@[simp] theorem asg_nm : asg (.nm i) d st = if i < st.length then some (st.set i (some (.sh d))) else none := by simp only [asg]
def asgK (ps : List Pt) (ds : List D) : Option Sl → Option Sl
  | some st => asgs ps ds st
  | none => none
@[simp] theorem asgK_some {ps : List Pt} : asgK ps ds (some st) = asgs ps ds st := nr rfl
@[simp] theorem asg_tp {ps : List Pt} : asg (.tp ps) (.tup ds) st = asgs ps ds st := by simp only [asg]
@[simp] theorem asgs_nil : asgs [] [] st = some st := by simp only [asgs]
@[simp] theorem asgs_cons {ps : List Pt} : asgs (p :: ps) (d :: ds) st = asgK ps ds (asg p d st) := by
  simp only [asgs]
  cases asg p d st <;> rfl
def kAtL (i : Nat) (st : Sl) (g : G) : Option (Option S) → Option (S × Sl × G)
  | some (some (.ow (.lst _))) => some (.at i, st, g)
  | _ => none
@[simp] theorem kAtL_ow : kAtL i st g (some (some (.ow (.lst ds)))) = some (.at i, st, g) := nr rfl
@[simp] theorem r_atL : (mAtL i : M G S) st g = kAtL i st g st[i]? := nr (by
  unfold mAtL kAtL
  generalize st[i]? = o
  exact match o with
    | none => rfl
    | some none => rfl
    | some (some s) => by
      cases s with
      | ow d => cases d <;> rfl
      | _ => rfl)
def kMl3 (i : Nat) (st : Sl) (g : G) : Option D → Option (S × Sl × G)
  | some e => some (.sh .non, st.set i (some (.ow e)), g)
  | none => none
@[simp] theorem kMl3_some : kMl3 i st g (some e) = some (.sh .non, st.set i (some (.ow e)), g) := nr rfl
def kMl2 (i : Nat) (op : D → D → Option D) (d : D) (st : Sl) (g : G) : Option (Option S) → Option (S × Sl × G)
  | some (some (.ow e)) => kMl3 i st g (op e d)
  | _ => none
@[simp] theorem kMl2_ow {op : D → D → Option D} : kMl2 i op d st g (some (some (.ow e))) = kMl3 i st g (op e d) := nr rfl
def kMl1 (i : Nat) (op : D → D → Option D) (d : D) (st : Sl) (g : G) : Option (S × Sl × G) := kMl2 i op d st g st[i]?
@[simp] theorem kMl1_eq {op : D → D → Option D} : kMl1 i op d st g = kMl2 i op d st g st[i]? := nr rfl
def kMl (i : Nat) (op : D → D → Option D) (a : M G S) (_ : S) (st : Sl) (g : G) : Option (S × Sl × G) := thn (mTake a st g) (kMl1 i op) .u
@[simp] theorem kMl_eq {op : D → D → Option D} : kMl i op a s st g = thn (mTake a st g) (kMl1 i op) .u := nr rfl
@[simp] theorem r_methL {op : D → D → Option D} : mMethL i op a st g = thn (mAtL i st g) (kMl i op a) .u := nr (by
  unfold mMethL thn kMl; congr 1; funext x st g
  unfold thn kMl1; congr 1; funext d st g
  unfold kMl2
  generalize st[i]? = o
  exact match o with
    | none => rfl
    | some none => rfl
    | some (some s) => by
      cases s with
      | ow e => show Option.map _ _ = kMl3 i st g (op e d); cases op e d <;> rfl
      | _ => rfl)
def kZip (ds : List D) (st : Sl) (g : G) : Option ((List D × List S) × Sl × G) := match ds with
  | [.lst xs, .lst ys] => some ((zipD xs ys, [.sh (.lst xs), .sh (.lst ys)]), st, g)
  | [.tup xs, .tup ys] => some ((zipD xs ys, [.sh (.tup xs), .sh (.tup ys)]), st, g)
  | _ => none
@[simp] theorem kZip_ll {xs ys : List D} : kZip [.lst xs, .lst ys] st g = some ((zipD xs ys, [.sh (.lst xs), .sh (.lst ys)]), st, g) := nr rfl
@[simp] theorem kZip_tt {xs ys : List D} : kZip [.tup xs, .tup ys] st g = some ((zipD xs ys, [.sh (.tup xs), .sh (.tup ys)]), st, g) := nr rfl
@[simp] theorem r_zip : srcZip u st g = thn (u st g) kZip .u := nr rfl
def kEnum : D → Sl → G → Option ((List D × List S) × Sl × G)
  | .lst ds, st, g => some ((enumD ds, [.sh (.lst ds)]), st, g)
  | _, _, _ => none
@[simp] theorem kEnum_l : kEnum (.lst ds) st g = some ((enumD ds, [.sh (.lst ds)]), st, g) := nr rfl
@[simp] theorem r_enum : srcEnum a st g = thn (mTake a st g) kEnum .u := nr (by
  unfold srcEnum thn; congr 1; funext d st g
  cases d <;> rfl)
def okR2 (i j : Int) : Bool := decide ((-(2 ^ 62) ≤ i ∧ i < 2 ^ 62) ∧ (-(2 ^ 62) ≤ j ∧ j < 2 ^ 62) ∧ (j - i).toNat ≤ sizeLine)
def kR22 : D → D → Sl → G → Option ((List D × List S) × Sl × G)
  | .int i, .int j, st, g => if okR2 i j = true then some ((rangeD i (j - i).toNat, []), st, g) else none
  | _, _, _, _ => none
@[simp] theorem kR22_int {i j : Int} (h : okR2 i j = true) : kR22 (.int i) (.int j) st g = some ((rangeD i (j - i).toNat, []), st, g) := by simp only [kR22, h, if_true]
def kR21 (b : M G S) (d : D) (st : Sl) (g : G) : Option ((List D × List S) × Sl × G) := thn (mTake b st g) (kR22 d) .u
@[simp] theorem kR21_eq : kR21 b d st g = thn (mTake b st g) (kR22 d) .u := nr rfl
@[simp] theorem r_srcR2 : srcRange2 a b st g = thn (mTake a st g) (kR21 b) .u := nr (by
  unfold srcRange2 thn kR21; congr 1; funext d st g
  unfold thn; congr 1; funext e st g
  cases d <;> cases e <;> simp only [kR22, okR2, decide_eq_true_eq])
end
@[simp] theorem wipeS_nil {st : Sl} : wipeS st [] = st := nr rfl
@[simp] theorem wipeS_cons {st : Sl} {i : Nat} {vs : List Nat} : wipeS st (i :: vs) = (wipeS st vs).set i none := nr rfl
/-- it ends, and so -/
def wp {α β : Type} (r : Option (α × β × Dk)) (Q : α → β → Dk → Prop) : Prop := ∃ a b g, r = some (a, b, g) ∧ Q a b g
theorem wp_some {α β : Type} {a : α} {b : β} {g : Dk} {Q : α → β → Dk → Prop} (h : Q a b g) : wp (some (a, b, g)) Q := ⟨a, b, g, rfl, h⟩
@[simp] theorem wp_some_iff {α β : Type} {a : α} {b : β} {g : Dk} {Q : α → β → Dk → Prop} : wp (some (a, b, g)) Q ↔ Q a b g := ⟨fun ⟨_, _, _, e, h⟩ => by cases e; exact h, wp_some⟩
theorem wp_thn {α β γ : Type} {x : Option (α × Sl × Dk)} {k : α → Sl → Dk → Option (γ × β × Dk)} {u : UnitOf k} {Q : γ → β → Dk → Prop} (h : wp x fun a st g => wp (k a st g) Q) : wp (thn x k u) Q := by
  obtain ⟨a, st, g, rfl, h⟩ := h
  exact h
theorem wp_mono {α β : Type} {r : Option (α × β × Dk)} {Q Q' : α → β → Dk → Prop} (h : wp r Q) (hq : ∀ a b g, Q a b g → Q' a b g) : wp r Q' := by
  obtain ⟨a, b, g, e, h⟩ := h
  exact ⟨a, b, g, e, hq _ _ _ h⟩
/-- a comprehension whose parts draw nothing and keep the slots -/
theorem lc_pure1 {α : Type} {src : M Dk (List D × List S)} {p : Pt} {vs : List Nat} {test : M Dk Bool} {elt : M Dk S} {st st1 w0 : Sl} {g : Dk} {cells : List S} (l : List α) (enc : α → D) (f : α → Bool) (h : α → D)
    (hsrc : src st g = some ((l.map enc, cells), st1, g)) (hw : wipeS st1 vs = w0)
    (hs : ∀ a ∈ l, ∃ st2, asg p (enc a) w0 = some st2 ∧ wipeS st2 vs = w0 ∧ test st2 g = some (f a, st2, g) ∧ (f a = true → mTake elt st2 g = some (h a, st2, g))) :
    mLc src p vs test elt st g = some (.ow (.lst ((l.filter f).map h)), w0, g) := by
  have key : ∀ (l : List α) (acc : List D) (st0 : Sl), wipeS st0 vs = w0 → (∀ a ∈ l, ∃ st2, asg p (enc a) w0 = some st2 ∧ wipeS st2 vs = w0 ∧ test st2 g = some (f a, st2, g) ∧ (f a = true → mTake elt st2 g = some (h a, st2, g))) →
      ∃ st', compM p vs test elt (l.map enc) acc st0 g = some (acc ++ (l.filter f).map h, st', g) ∧ wipeS st' vs = w0 := by
    intro l
    induction l with
    | nil => intro acc st0 hw0 _; exact ⟨st0, by simp [compM], hw0⟩
    | cons a l ih =>
      intro acc st0 hw0 hs
      obtain ⟨st2, e1, e2, e3, e4⟩ := hs a List.mem_cons_self
      rw [List.map_cons]
      unfold compM
      rw [hw0, e1, Option.bind_some, e3, bnd_some]
      cases hb : f a with
      | true =>
        rw [if_pos rfl, e4 hb, bnd_some]
        obtain ⟨st', e5, e6⟩ := ih (acc ++ [h a]) st2 e2 fun a ha => hs a (List.mem_cons_of_mem _ ha)
        exact ⟨st', by rw [e5, List.filter_cons_of_pos hb]; simp, e6⟩
      | false =>
        rw [if_neg (by simp)]
        obtain ⟨st', e5, e6⟩ := ih acc st2 e2 fun a ha => hs a (List.mem_cons_of_mem _ ha)
        exact ⟨st', by rw [e5, List.filter_cons_of_neg (by simp [hb])], e6⟩
  obtain ⟨st', e, ew⟩ := key l [] st1 hw hs
  rw [r_lc, hsrc, thn_some]
  simp only [kLc_eq]
  rw [e, thn_some, kLc2_eq, ew, List.nil_append]
/-- all of them -/
theorem lc_all1 {α : Type} {src : M Dk (List D × List S)} {p : Pt} {vs : List Nat} {elt : M Dk S} {st st1 w0 : Sl} {g : Dk} {cells : List S} (l : List α) (enc : α → D) (h : α → D)
    (hsrc : src st g = some ((l.map enc, cells), st1, g)) (hw : wipeS st1 vs = w0)
    (hs : ∀ a ∈ l, ∃ st2, asg p (enc a) w0 = some st2 ∧ wipeS st2 vs = w0 ∧ mTake elt st2 g = some (h a, st2, g)) :
    mLc src p vs mYes elt st g = some (.ow (.lst (l.map h)), w0, g) := by
  have := lc_pure1 (test := mYes) l enc (fun _ => true) h hsrc hw fun a ha => by
    obtain ⟨st2, e1, e2, e3⟩ := hs a ha
    exact ⟨st2, e1, e2, rfl, fun _ => e3⟩
  rw [this, List.filter_eq_self.mpr fun _ _ => rfl]
/-- a loop -/
theorem for_wp {p : Pt} {body : M Dk Fl} {items : List D} {st : Sl} {g : Dk} {Q : Fl → Sl → Dk → Prop} (J : Nat → Sl → Dk → Prop) (h0 : J 0 st g)
    (hs : ∀ k d st g, items[k]? = some d → J k st g → ∃ st1, asg p d st = some st1 ∧ wp (body st1 g) fun fl st2 g2 => fl = .nx ∧ J (k + 1) st2 g2)
    (hd : ∀ st g, J items.length st g → Q .nx st g) : wp (forM p body items st g) Q := by
  obtain ⟨st', g', e, hj⟩ := forM_rule (p := p) (body := body) J items 0 st g h0 fun k d st g e hj => by
    rw [Nat.zero_add] at hj ⊢
    obtain ⟨st1, e1, fl, st2, g2, e2, rfl, e4⟩ := hs k d st g e hj
    exact ⟨st1, e1, st2, g2, e2, e4⟩
  rw [e]
  exact wp_some (hd _ _ (by rw [Nat.zero_add] at hj; exact hj))
/-! ### data that may be looked at, and shown -/
def strOk (x : Str) : Bool := x.cps.toList.all fun c => decide (c < 16 ^ 8)
mutual
def okD : D → Bool
  | .non => true
  | .bl _ => true
  | .int i => decide (i.natAbs.log2 < 1920)
  | .str x => strOk x
  | .tup l => okDs l
  | .lst l => okDs l
  | .dct _ => false
  | .dcn _ => false
  | .obj _ => false
def okDs : List D → Bool
  | [] => true
  | d :: l => okD d && okDs l
end
mutual
/-- at least as long as it is shown -/
def wt : D → Nat
  | .non => 4
  | .bl _ => 5
  | .int _ => 2000
  | .str x => 10 * x.length + 2
  | .tup l => wts l + 3
  | .lst l => wts l + 3
  | .dct _ => 0
  | .dcn _ => 0
  | .obj _ => 0
def wts : List D → Nat
  | [] => 0
  | d :: l => wt d + 2 + wts l
end
theorem okDs_iff : ∀ {l : List D}, okDs l = true ↔ ∀ d ∈ l, okD d = true
  | [] => by simp [okDs]
  | d :: l => by simp [okDs, okDs_iff (l := l)]
theorem wts_len : ∀ l : List D, 2 * l.length ≤ wts l
  | [] => by simp [wts]
  | d :: l => by have := wts_len l; simp only [wts, List.length_cons]; omega
mutual
theorem okD_pl : ∀ d : D, okD d = true → d.pl = true
  | .non, _ => rfl
  | .bl _, _ => rfl
  | .int _, _ => rfl
  | .str _, _ => rfl
  | .tup l, h => by simp only [okD] at h; simp only [D.pl]; exact okDs_pls l h
  | .lst l, h => by simp only [okD] at h; simp only [D.pl]; exact okDs_pls l h
  | .dct _, h => by simp [okD] at h
  | .dcn _, h => by simp [okD] at h
  | .obj _, h => by simp [okD] at h
theorem okDs_pls : ∀ l : List D, okDs l = true → D.pls l = true
  | [], _ => rfl
  | d :: l, h => by
    simp only [okDs, Bool.and_eq_true] at h
    simp only [D.pls, okD_pl d h.1, okDs_pls l h.2, Bool.and_self]
end
mutual
theorem okD_show : ∀ d : D, okD d = true → d.py.showable = true
  | .non, _ => rfl
  | .bl _, _ => rfl
  | .int _, h => by simpa [okD, D.py, PyData.showable] using h
  | .str _, _ => rfl
  | .tup l, h => by simp only [okD] at h; simp only [D.py, PyData.showable]; exact okDs_shows l h
  | .lst l, h => by simp only [okD] at h; simp only [D.py, PyData.showable]; exact okDs_shows l h
  | .dct _, h => by simp [okD] at h
  | .dcn _, h => by simp [okD] at h
  | .obj _, h => by simp [okD] at h
theorem okDs_shows : ∀ l : List D, okDs l = true → PyData.showableAll (D.pys l) = true
  | [], _ => rfl
  | d :: l, h => by
    simp only [okDs, Bool.and_eq_true] at h
    simp only [D.pys, PyData.showableAll, okD_show d h.1, okDs_shows l h.2, Bool.and_self]
end
theorem listText_le (ts : List Str) : (listText ts).length ≤ piled ts + 2 := by
  unfold listText
  rw [strLen_append]
  have e1 : ((("]" : String) : Str)).length = 1 := rfl
  have e2 : ((("[" : String) : Str)).length = 1 := rfl
  cases ts with
  | nil => show (("[" : String) : Str).length + _ ≤ _; omega
  | cons t r =>
    show (textFrom 1 _ r).length + _ ≤ _
    rw [textFrom_length_pos r 1 _ (by decide), strLen_append, strLen_append, piled_cons]
    have e3 : ((if 0 > 0 then ", " else "" : String) : Str).length = 0 := rfl
    rw [e3]
    omega
theorem tupleText_le (ts : List Str) : (tupleText ts).length ≤ piled ts + 3 := by
  unfold tupleText
  rw [strLen_append, strLen_append]
  have e1 : ((("(" : String) : Str)).length = 1 := rfl
  have e2 : ((if ts.length == 1 then ",)" else ")" : String) : Str).length ≤ 2 := by split <;> decide
  by_cases h : ts = []
  · subst h
    have e3 : (Str.join ", " []).length = 0 := rfl
    omega
  · have := join_length_add ts h
    omega
theorem piled_le : ∀ l : List D, (∀ d ∈ l, d.py.shown.length ≤ wt d) → piled (PyData.shownAll (D.pys l)) ≤ wts l
  | [], _ => by simp [D.pys, PyData.shownAll, piled, wts]
  | d :: l, h => by
    simp only [D.pys, PyData.shownAll, piled_cons, wts]
    have := h d List.mem_cons_self
    have := piled_le l fun d hd => h d (List.mem_cons_of_mem _ hd)
    omega
mutual
theorem shown_le : ∀ d : D, okD d = true → d.py.shown.length ≤ wt d
  | .non, _ => by decide
  | .bl b, _ => by cases b <;> decide
  | .int i, h => by
    simp only [okD, decide_eq_true_eq] at h
    have := int_text_length_le (k := 1920) (by decide) h
    simp only [D.py, PyData.shown, wt]
    show (Str.ofString (toString i)).length ≤ 2000
    rw [PySem.ofString_length]; omega
  | .str x, h => by
    simp only [okD, strOk, List.all_eq_true, decide_eq_true_eq] at h
    simp only [D.py, PyData.shown, wt]
    exact StrLaws.reprText_len x h
  | .tup l, h => by
    simp only [okD] at h
    simp only [D.py, PyData.shown, wt]
    have := tupleText_le (PyData.shownAll (D.pys l))
    have := piled_le l (shown_les l h)
    omega
  | .lst l, h => by
    simp only [okD] at h
    simp only [D.py, PyData.shown, wt]
    have := listText_le (PyData.shownAll (D.pys l))
    have := piled_le l (shown_les l h)
    omega
  | .dct _, h => by simp [okD] at h
  | .dcn _, h => by simp [okD] at h
  | .obj _, h => by simp [okD] at h
theorem shown_les : ∀ l : List D, okDs l = true → ∀ d ∈ l, d.py.shown.length ≤ wt d
  | [], _, d, hd => by cases hd
  | e :: l, h, d, hd => by
    simp only [okDs, Bool.and_eq_true] at h
    have h1 := shown_le e h.1
    have h2 := shown_les l h.2
    rcases List.mem_cons.mp hd with q | q
    · rw [q]; exact h1
    · exact h2 d q
end
/-- fine data: looked at, shown; its weight, its depth -/
structure Fi (n k : Nat) (d : D) : Prop where
  ok : okD d = true
  w : wt d ≤ n
  dp : d.py.depth ≤ k
theorem Fi.mono {n k n' k' : Nat} {d : D} (h : Fi n k d) (h1 : n ≤ n') (h2 : k ≤ k') : Fi n' k' d := ⟨h.ok, Nat.le_trans h.w h1, Nat.le_trans h.dp h2⟩
theorem Fi.repr {n k : Nat} {d : D} (h : Fi n k d) (hn : n ≤ 10000000) (hk : k ≤ 100) : opRepr d = some (.sh (.str d.py.shown)) := by
  have h1 := shown_le d h.ok
  have h2 := h.w
  have h3 := h.dp
  have : okRepr d = true := by
    simp only [okRepr, Bool.and_eq_true, decide_eq_true_eq]
    exact ⟨⟨⟨okD_pl d h.ok, okD_show d h.ok⟩, by omega⟩, by rw [sizeLine_eq]; omega⟩
  simp only [opRepr, this, if_true]
theorem depthAll_le {l : List D} {k : Nat} (h : ∀ d ∈ l, d.py.depth ≤ k) : PyData.depthAll (D.pys l) ≤ k := by
  induction l with
  | nil => simp [D.pys, PyData.depthAll]
  | cons d l ih =>
    simp only [D.pys, PyData.depthAll]
    have := h d List.mem_cons_self
    have := ih fun d hd => h d (List.mem_cons_of_mem _ hd)
    omega
theorem Fi.tup {n k : Nat} {l : List D} (h : ∀ d ∈ l, okD d = true ∧ d.py.depth ≤ k) (hw : wts l + 3 ≤ n) : Fi n (k + 1) (.tup l) :=
  ⟨by simp only [okD]; exact okDs_iff.mpr fun d hd => (h d hd).1, by simpa only [wt] using hw, by simp only [D.py, PyData.depth]; have := depthAll_le fun d hd => (h d hd).2; omega⟩
theorem Fi.lst {n k : Nat} {l : List D} (h : ∀ d ∈ l, okD d = true ∧ d.py.depth ≤ k) (hw : wts l + 3 ≤ n) : Fi n (k + 1) (.lst l) :=
  ⟨by simp only [okD]; exact okDs_iff.mpr fun d hd => (h d hd).1, by simpa only [wt] using hw, by simp only [D.py, PyData.depth]; have := depthAll_le fun d hd => (h d hd).2; omega⟩
theorem Fi.len {n k : Nat} {l : List D} (h : Fi n k (.tup l)) : 2 * l.length ≤ n := by
  have h2 := h.w
  simp only [wt] at h2
  have := wts_len l
  omega
theorem Fi.str {n k : Nat} {d : D} (h : Fi n k d) : ∀ x, d = .str x → 10 * x.length ≤ n := fun x e => by
  subst e
  have h2 := h.w
  simp only [wt] at h2
  omega
end DL
namespace K01
open PySem PySem.Spec PyProof.Rows L2 DL
def topS (i : Nat) : Stmt := PySem.Challenge.pw_keyrates_k01_errors_by_hand.main.body.getD i (.Pass ⟨0, 0, 0, 0⟩)
def XCS : List Str := ["TooMany", "NoTable", "NoRow", "Full", "There", "NoThin", "TooLong", "NothingDone", "BadText", "BadPlan"]
def XTS : List Str := ["TooMany", "NoTable", "NoRow", "Full", "There", "NoThin", "TooLong", "NothingDone", "BadText", "BadPlan", "RateError"]
def XFS : List Str := ["number", "table", "row", "place"]
structure Tx (P : Program) (K : PySem.W.Frag) (mg : Str → Option Value) (base : Heap) : Prop where
  d__law_deck : DefOk K mg "_law_deck" (topS 13) ["_law_script"]
  d__law_next : DefOkK K mg "_law_next" (topS 14) ["_law_deck_here", "_law_many"] []
  d__law_one : DefOkK K mg "_law_one" (topS 15) ["_law_deck_here", "_law_items"] []
  d__law_kinds : DefOkK K mg "_law_kinds" (topS 16) ["_law_e"] []
  d__law_value : DefOkK K mg "_law_value" (topS 17) ["_law_deck_here"] []
  c_ValueError : mg "ValueError" = none
  n_abs : mg "abs" = none
  n_enumerate : mg "enumerate" = none
  n_int : mg "int" = none
  n_isinstance : mg "isinstance" = none
  n_len : mg "len" = none
  n_range : mg "range" = none
  n_repr : mg "repr" = none
  c_super : mg "super" = none
  z_BadPlan : ∀ w, RzC P w K mg base "BadPlan" "number"
  z_BadText : ∀ w, RzC P w K mg base "BadText" "place"
  z_Full : ∀ w, RzC P w K mg base "Full" "table"
  z_NoRow : ∀ w, RzC P w K mg base "NoRow" "row"
  z_NoTable : ∀ w, RzC P w K mg base "NoTable" "table"
  z_NoThin : ∀ w, RzC0 P w K mg base "NoThin"
  z_NothingDone : ∀ w, RzC0 P w K mg base "NothingDone"
  z_There : ∀ w, RzC P w K mg base "There" "row"
  z_TooLong : ∀ w, RzC0 P w K mg base "TooLong"
  z_TooMany : ∀ w, RzC P w K mg base "TooMany" "number"
  g_TooMany : mg "TooMany" = some (.ref (He.ga K "TooMany"))
  g_NoTable : mg "NoTable" = some (.ref (He.ga K "NoTable"))
  g_NoRow : mg "NoRow" = some (.ref (He.ga K "NoRow"))
  g_Full : mg "Full" = some (.ref (He.ga K "Full"))
  g_There : mg "There" = some (.ref (He.ga K "There"))
  g_NoThin : mg "NoThin" = some (.ref (He.ga K "NoThin"))
  g_TooLong : mg "TooLong" = some (.ref (He.ga K "TooLong"))
  g_NothingDone : mg "NothingDone" = some (.ref (He.ga K "NothingDone"))
  g_BadText : mg "BadText" = some (.ref (He.ga K "BadText"))
  g_BadPlan : mg "BadPlan" = some (.ref (He.ga K "BadPlan"))
  g_RateError : mg "RateError" = some (.ref (He.ga K "RateError"))
  zk_BadPlan : ∀ w, RzCK P w K mg base "BadPlan" "number" "number"
  zk_BadText : ∀ w, RzCK P w K mg base "BadText" "place" "place"
  zk_Full : ∀ w, RzCK P w K mg base "Full" "table" "table"
  zk_NoRow : ∀ w, RzCK P w K mg base "NoRow" "row" "row"
  zk_NoTable : ∀ w, RzCK P w K mg base "NoTable" "table" "table"
  zk_There : ∀ w, RzCK P w K mg base "There" "row" "row"
  zk_TooMany : ∀ w, RzCK P w K mg base "TooMany" "number" "number"
  xh : XH K XCS XTS XFS
/-! _law_next -/
abbrev s__law_next : Stmt := topS 14
theorem sc__law_next : FnScope ["_law_deck_here", "_law_many", "_law_turn", "_law_figure", "_law_mixed", "_law_rest"] ["_law_deck_here", "_law_many"] (defScope s__law_next) := ⟨rfl, rfl, rfl, by decide +kernel, rfl, by decide +kernel, by decide +kernel⟩
theorem D__law_next {P : Program} {w : World} {K : PySem.W.Frag} {mg : Str → Option Value} {base : Heap} (T : Tx P K mg base) : FDK P w K mg base (DF ⟨K, w, (0 : Addr)⟩) 1 "_law_next" 2 F__law_next [] := fdk_to T.d__law_next sc__law_next rfl fun f =>
  (s_cons (d_while (t_neW rdW (d_subW rdW (d_var 0) d_int) (d_lst a_nil)) (s_cons (d_set 5 (d_subW rdW (d_subW rdW (d_var 0) d_int) d_int)) (s_cons (d_if (t_ord oGt (d_var 5) d_int) (s_cons (d_putW (d_subW rdW (d_var 0) d_int) d_int (d_fdiv (d_var 5) (d_var 1))) (s_one (d_ret (d_mod (d_int1 T.n_int (d_var 5)) (d_var 1))))) s_nil) (s_one (d_expr (d_popW (d_subW rdW (d_var 0) d_int))))))) (s_cons (d_putW (d_var 0) d_int (d_add (d_subW rdW (d_var 0) d_int) d_int)) (s_cons (d_set 2 (d_subW rdW (d_var 0) d_int)) (s_cons (d_set 3 (d_mod (d_int1 T.n_int (d_subW rdW (d_subW rdW (d_var 0) d_int) (d_mod (d_int1 T.n_int (d_var 2)) (d_lenW rdW T.n_len (d_subW rdW (d_var 0) d_int))))) d_int)) (s_cons (d_set 4 (d_mod (d_int1 T.n_int (d_add (d_add (d_mul (d_var 3) (d_add d_int (d_mul d_int (d_var 2)))) (d_mul (d_mul d_int (d_var 2)) (d_var 2))) d_int)) d_int)) (s_one (d_ret (d_mod (d_fdiv (d_mod (d_int1 T.n_int (d_mul (d_var 4) (d_var 4))) d_int) d_int) (d_var 1)))))))))
/-! _law_one -/
abbrev s__law_one : Stmt := topS 15
theorem sc__law_one : FnScope ["_law_deck_here", "_law_items"] ["_law_deck_here", "_law_items"] (defScope s__law_one) := ⟨rfl, rfl, rfl, by decide +kernel, rfl, by decide +kernel, by decide +kernel⟩
theorem D__law_one {P : Program} {w : World} {K : PySem.W.Frag} {mg : Str → Option Value} {base : Heap} (T : Tx P K mg base) : FDK P w K mg base (DF ⟨K, w, (0 : Addr)⟩) 2 "_law_one" 2 F__law_one [] := fdk_to T.d__law_one sc__law_one rfl fun f =>
  (s_one (d_ret (d_sub' (d_var 1) (d_call (D__law_next (P := P) (w := w) (K := K) (mg := mg) (base := base) T).fd (a_cons (d_var 0) (a_cons (d_len T.n_len (d_var 1)) a_nil)) (Nat.le_of_ble_eq_true rfl)))))
/-! _law_kinds -/
abbrev s__law_kinds : Stmt := topS 16
theorem sc__law_kinds : FnScope ["_law_e", "_law_found"] ["_law_e"] (defScope s__law_kinds) := ⟨rfl, rfl, rfl, by decide +kernel, rfl, by decide +kernel, by decide +kernel⟩
noncomputable def B__law_kinds : M Dk Fl := (mSeq (mSet 1 (mShr (mLst (mCons (mIsX XCS "TooMany" (mVar 0)) (mCons (mIsX XCS "NoTable" (mVar 0)) (mCons (mIsX XCS "NoRow" (mVar 0)) (mCons (mIsX XCS "Full" (mVar 0)) mNil))))))) (mSeq (mSet 1 (mShr (mOp opAdd (mVar 1) (mLst (mCons (mIsX XCS "There" (mVar 0)) (mCons (mIsX XCS "NoThin" (mVar 0)) (mCons (mIsX XCS "TooLong" (mVar 0)) (mCons (mIsX XCS "NothingDone" (mVar 0)) mNil)))))))) (mRet (mOp opAdd (mVar 1) (mLst (mCons (mIsX XCS "BadText" (mVar 0)) (mCons (mIsX XCS "BadPlan" (mVar 0)) mNil)))))))
noncomputable def F__law_kinds : Fn Dk := mFn 1 2 B__law_kinds
theorem D__law_kinds {P : Program} {w : World} {K : PySem.W.Frag} {mg : Str → Option Value} {base : Heap} (T : Tx P K mg base) : FDK P w K mg base (DF ⟨K, w, (0 : Addr)⟩) 1 "_law_kinds" 1 F__law_kinds [] := fdk_to T.d__law_kinds sc__law_kinds rfl fun f =>
  (s_cons (d_set 1 (d_shr (d_lst (a_cons (d_isX (fun _ h => h) (T.xh.isO (by decide +kernel)) T.n_isinstance T.g_TooMany (d_var 0)) (a_cons (d_isX (fun _ h => h) (T.xh.isO (by decide +kernel)) T.n_isinstance T.g_NoTable (d_var 0)) (a_cons (d_isX (fun _ h => h) (T.xh.isO (by decide +kernel)) T.n_isinstance T.g_NoRow (d_var 0)) (a_cons (d_isX (fun _ h => h) (T.xh.isO (by decide +kernel)) T.n_isinstance T.g_Full (d_var 0)) a_nil))))))) (s_cons (d_set 1 (d_shr (d_add (d_var 1) (d_lst (a_cons (d_isX (fun _ h => h) (T.xh.isO (by decide +kernel)) T.n_isinstance T.g_There (d_var 0)) (a_cons (d_isX (fun _ h => h) (T.xh.isO (by decide +kernel)) T.n_isinstance T.g_NoThin (d_var 0)) (a_cons (d_isX (fun _ h => h) (T.xh.isO (by decide +kernel)) T.n_isinstance T.g_TooLong (d_var 0)) (a_cons (d_isX (fun _ h => h) (T.xh.isO (by decide +kernel)) T.n_isinstance T.g_NothingDone (d_var 0)) a_nil)))))))) (s_one (d_ret (d_add (d_var 1) (d_lst (a_cons (d_isX (fun _ h => h) (T.xh.isO (by decide +kernel)) T.n_isinstance T.g_BadText (d_var 0)) (a_cons (d_isX (fun _ h => h) (T.xh.isO (by decide +kernel)) T.n_isinstance T.g_BadPlan (d_var 0)) a_nil))))))))
/-! _law_value -/
abbrev s__law_value : Stmt := topS 17
theorem sc__law_value : FnScope ["_law_deck_here", "_law_some"] ["_law_deck_here"] (defScope s__law_value) := ⟨rfl, rfl, rfl, by decide +kernel, rfl, by decide +kernel, by decide +kernel⟩
noncomputable def B__law_value : M Dk Fl := (mSeq (mSet 1 (mShr (mLst (mCons (mC .non) (mCons (mC (.bl true)) (mCons (mC (.bl false)) (mCons (mC (.int 0)) (mCons (mUn opNeg (mC (.int 1))) (mCons (mOp opPow2 (mC (.int 10)) (mC (.int 30))) (mCons (mC (.str "")) (mCons (mC (.str "sold")) (mCons (mTup mNil) (mCons (mTup (mCons (mC (.int 1)) (mCons (mC (.int 2)) mNil))) (mCons (mLst (mCons (mC (.int 3)) mNil)) (mCons (mTup (mCons (mTup (mCons (mC (.int 1)) (mCons (mC (.int 5)) mNil))) (mCons (mC (.str "x")) mNil))) (mCons (mTup (mCons (mC (.str "all")) (mCons (mC (.str "sold")) mNil))) mNil)))))))))))))))) (mRet (mCall F__law_one (mCons (mVar 0) (mCons (mOp opAdd (mVar 1) (mLst (mCons (mCall F__law_next (mCons (mVar 0) (mCons (mC (.int 1000)) mNil))) mNil))) mNil)))))
noncomputable def F__law_value : Fn Dk := mFn 1 2 B__law_value
theorem D__law_value {P : Program} {w : World} {K : PySem.W.Frag} {mg : Str → Option Value} {base : Heap} (T : Tx P K mg base) : FDK P w K mg base (DF ⟨K, w, (0 : Addr)⟩) 3 "_law_value" 1 F__law_value [] := fdk_to T.d__law_value sc__law_value rfl fun f =>
  (s_cons (d_set 1 (d_shr (d_lst (a_cons d_non (a_cons d_bl (a_cons d_bl (a_cons d_int (a_cons (d_neg d_int) (a_cons (d_pow2 d_int d_int) (a_cons d_str (a_cons d_str (a_cons (d_tup a_nil) (a_cons (d_tup (a_cons d_int (a_cons d_int a_nil))) (a_cons (d_lst (a_cons d_int a_nil)) (a_cons (d_tup (a_cons (d_tup (a_cons d_int (a_cons d_int a_nil))) (a_cons d_str a_nil))) (a_cons (d_tup (a_cons d_str (a_cons d_str a_nil))) a_nil)))))))))))))))) (s_one (d_ret (d_call (D__law_one (P := P) (w := w) (K := K) (mg := mg) (base := base) T).fd (a_cons (d_var 0) (a_cons (d_add (d_var 1) (d_lst (a_cons (d_call (D__law_next (P := P) (w := w) (K := K) (mg := mg) (base := base) T).fd (a_cons (d_var 0) (a_cons d_int a_nil)) (Nat.le_of_ble_eq_true rfl)) a_nil))) a_nil)) (Nat.le_of_ble_eq_true rfl)))))
/-! _law_deck -/
abbrev s__law_deck : Stmt := topS 13
theorem sc__law_deck : FnScope ["_law_script", "_law_cells", "_law_figure"] ["_law_script"] (defScope s__law_deck) := ⟨rfl, rfl, rfl, by decide +kernel, rfl, by decide +kernel, by decide +kernel⟩
theorem D__law_deck {P : Program} {w : World} {K : PySem.W.Frag} {mg : Str → Option Value} {base : Heap} (T : Tx P K mg base) : ∃ f fd, mg "_law_deck" = some (.ref f) ∧ PySem.W.keepIn K (.ref f) = true ∧ Binds K fd ["_law_script"] [] ∧ DZ.FnG P w K mg base CX0 1 f fd ["_law_script"] (spDeck K) := by
  obtain ⟨f, fd, F, hm, hb⟩ := T.d__law_deck
  exact ⟨f, fd, hm, F.kp, hb, deck_of (m1 := dk1) (f1 := dk2) (f2 := dk3) F sc__law_deck rfl (fun ns => (d_setLc 1 [("_law_figure", 2)] (i_scr 0) (g_name 2) t_nil (d_abs T.n_abs (d_var 2)) (ok := fun _ => by kernel_rfl))) (fun ns => (d_lc [("_law_figure", 2)] (i_seq (d_var 1)) (g_name 2) (t_one (t_ord oGe (d_var 2) (d_pow d_int d_int))) (d_var 2) (ok := fun _ => by kernel_rfl))) (fun ns => (d_add (d_var 1) (d_lst (a_cons (d_add (d_len T.n_len (d_var 1)) d_int) a_nil)))) (fun _ => rfl) (fun _ => rfl) deck_good⟩
noncomputable def C_law_0 : M Dk S := (mLc (srcRange1 (mC (.int 10))) (.nm 9) [9] mYes (mOp opEq (mVar 7) (mVar 9)))
noncomputable def L_law_1 : M Dk Fl := (mSeq (mIf (mTest (mOp opNe (mCall F__law_kinds (mCons (mVar 8) mNil)) C_law_0)) (mRet (mC (.bl false))) mNext) (mIf (mOr (mNot (mTest (mIsX XCS "RateError" (mVar 8)))) (mNot (mTest (mIsX XCS "ValueError" (mVar 8))))) (mRet (mC (.bl false))) mNext))
noncomputable def L_law_2 : M Dk Fl := (mSeq (mPar 5 6 (mCall F__law_value (mCons (mVar 1) mNil)) (mCall F__law_value (mCons (mVar 1) mNil))) (mSeq (mSet 3 (mLst (mCons (mExc "TooMany" "number" (mVar 5)) (mCons (mExc "NoTable" "table" (mVar 5)) (mCons (mExc "NoRow" "row" (mVar 5)) (mCons (mExc "Full" "table" (mVar 5)) (mCons (mExc "There" "row" (mVar 5)) (mCons (mExc0 "NoThin") (mCons (mExc0 "TooLong") (mCons (mExc0 "NothingDone") (mCons (mExc "BadText" "place" (mVar 5)) mNil))))))))))) (mSeq (mDrop (mMethL 3 opApp (mExc "BadPlan" "number" (mVar 5)))) (mSeq (mFor (srcEnum (mVar 3)) (.tp [(.nm 7), (.nm 8)]) L_law_1) (mSeq (mSet 4 (mLst (mCons (mXf XCS "number" (mOp opIx (mVar 3) (mC (.int 0)))) (mCons (mXf XCS "table" (mOp opIx (mVar 3) (mC (.int 1)))) (mCons (mXf XCS "row" (mOp opIx (mVar 3) (mC (.int 2)))) (mCons (mXf XCS "table" (mOp opIx (mVar 3) (mC (.int 3)))) (mCons (mXf XCS "row" (mOp opIx (mVar 3) (mC (.int 4)))) (mCons (mXf XCS "place" (mOp opIx (mVar 3) (mC (.int 8)))) mNil)))))))) (mSeq (mDrop (mMethL 4 opApp (mXf XCS "number" (mOp opIx (mVar 3) (mC (.int 9)))))) (mSeq (mSet 4 (mOp opAdd (mVar 4) (mLst (mCons (mXf XCS "number" (mExcK "TooMany" "number" (mCons (mVar 6) mNil))) (mCons (mXf XCS "table" (mExcK "NoTable" "table" (mCons (mVar 6) mNil))) (mCons (mXf XCS "row" (mExcK "NoRow" "row" (mCons (mVar 6) mNil))) (mCons (mXf XCS "table" (mExcK "Full" "table" (mCons (mVar 6) mNil))) mNil))))))) (mSeq (mSet 4 (mOp opAdd (mVar 4) (mLst (mCons (mXf XCS "row" (mExcK "There" "row" (mCons (mVar 6) mNil))) (mCons (mXf XCS "place" (mExcK "BadText" "place" (mCons (mVar 6) mNil))) (mCons (mXf XCS "number" (mExcK "BadPlan" "number" (mCons (mVar 6) mNil))) mNil)))))) (mIf (mTest (mOp opNe (mUn opRepr (mVar 4)) (mUn opRepr (mOp opAdd (mOp opMul2 (mLst (mCons (mVar 5) mNil)) (mC (.int 7))) (mOp opMul2 (mLst (mCons (mVar 6) mNil)) (mC (.int 7))))))) (mRet (mC (.bl false))) mNext)))))))))
/-! law -/
abbrev s_law : Stmt := topS 18
theorem sc_law : FnScope ["_law_script", "_law_deck_here", "_law_turn", "_law_some", "_law_found", "_law_p", "_law_q", "_law_at", "_law_error", "_law_figure"] ["_law_script"] (defScope s_law) := ⟨rfl, rfl, rfl, by decide +kernel, rfl, by decide +kernel, by decide +kernel⟩
noncomputable def B_law : M Dk Fl := (mSeq (mFor (srcRange1 (mC (.int 6))) (.nm 2) L_law_2) (mRet (mC (.bl true))))
def lawSlots : Sl := (List.replicate 10 none).set 1 (some (.sh (.obj 0)))
theorem D_law (good : ∀ ns : List Int, ns.length ≤ 63 → ∃ st' g', B_law lawSlots (deck0 ns) = some (.rt (.bl true), st', g')) {P : Program} {w : World} {K : PySem.W.Frag} {mg : Str → Option Value} {base : Heap} (T : Tx P K mg base) {f : Addr} {fd : FuncData} (F : Fun K "law" "law" s_law f fd) : DZ.FnG P w K mg base CX0 4 f fd ["_law_script"] (spTrue K) := by
  obtain ⟨fk, fdk, hmk, hkp, hbd, D0⟩ := D__law_deck (P := P) (w := w) (base := base) T
  exact law_of (b := B_law) (i := 1) F sc_law rfl D0 hmk hkp hbd (
    (s_cons (d_for (i_range1 d_int (hm := T.n_range)) (g_name 2) (s_cons (d_par 5 6 (d_call (D__law_value (P := P) (w := w) (K := K) (mg := mg) (base := base) T).fd (a_cons (d_var 1) a_nil) (Nat.le_of_ble_eq_true rfl)) (d_call (D__law_value (P := P) (w := w) (K := K) (mg := mg) (base := base) T).fd (a_cons (d_var 1) a_nil) (Nat.le_of_ble_eq_true rfl))) (s_cons (d_set 3 (d_lst (a_cons (d_exc (fun _ h => h) (T.z_TooMany w) T.g_TooMany (d_var 5) (Nat.le_of_ble_eq_true rfl)) (a_cons (d_exc (fun _ h => h) (T.z_NoTable w) T.g_NoTable (d_var 5) (Nat.le_of_ble_eq_true rfl)) (a_cons (d_exc (fun _ h => h) (T.z_NoRow w) T.g_NoRow (d_var 5) (Nat.le_of_ble_eq_true rfl)) (a_cons (d_exc (fun _ h => h) (T.z_Full w) T.g_Full (d_var 5) (Nat.le_of_ble_eq_true rfl)) (a_cons (d_exc (fun _ h => h) (T.z_There w) T.g_There (d_var 5) (Nat.le_of_ble_eq_true rfl)) (a_cons (d_exc0 (fun _ h => h) (T.z_NoThin w) T.g_NoThin (Nat.le_of_ble_eq_true rfl)) (a_cons (d_exc0 (fun _ h => h) (T.z_TooLong w) T.g_TooLong (Nat.le_of_ble_eq_true rfl)) (a_cons (d_exc0 (fun _ h => h) (T.z_NothingDone w) T.g_NothingDone (Nat.le_of_ble_eq_true rfl)) (a_cons (d_exc (fun _ h => h) (T.z_BadText w) T.g_BadText (d_var 5) (Nat.le_of_ble_eq_true rfl)) a_nil))))))))))) (s_cons (d_expr (d_app 3 (d_exc (fun _ h => h) (T.z_BadPlan w) T.g_BadPlan (d_var 5) (Nat.le_of_ble_eq_true rfl)))) (s_cons (d_for (i_enum (d_var 3) T.n_enumerate) (g_tup (gs_cons (g_name 7) (gs_cons (g_name 8) gs_nil))) (s_cons (d_if (t_ne (d_call (D__law_kinds (P := P) (w := w) (K := K) (mg := mg) (base := base) T).fd (a_cons (d_var 8) a_nil) (Nat.le_of_ble_eq_true rfl)) (d_lc [("_law_figure", 9)] (i_range1 d_int (hm := T.n_range)) (g_name 9) t_nil (d_eq (d_var 7) (d_var 9)) (ok := fun _ => by kernel_rfl))) (s_one (d_ret d_bl)) s_nil) (s_one (d_if (DW.dt (w_or (d_not (d_test (d_isX (fun _ h => h) (T.xh.isO (by decide +kernel)) T.n_isinstance T.g_RateError (d_var 8)))) (w_or1 (d_not (d_test (d_isXV (fun _ h => h) T.xh.isV T.n_isinstance T.c_ValueError (d_var 8))))))) (s_one (d_ret d_bl)) s_nil)))) (s_cons (d_set 4 (d_lst (a_cons (d_xf (fun _ h => h) (T.xh.xf (by decide +kernel)) (d_sub' (d_var 3) d_int)) (a_cons (d_xf (fun _ h => h) (T.xh.xf (by decide +kernel)) (d_sub' (d_var 3) d_int)) (a_cons (d_xf (fun _ h => h) (T.xh.xf (by decide +kernel)) (d_sub' (d_var 3) d_int)) (a_cons (d_xf (fun _ h => h) (T.xh.xf (by decide +kernel)) (d_sub' (d_var 3) d_int)) (a_cons (d_xf (fun _ h => h) (T.xh.xf (by decide +kernel)) (d_sub' (d_var 3) d_int)) (a_cons (d_xf (fun _ h => h) (T.xh.xf (by decide +kernel)) (d_sub' (d_var 3) d_int)) a_nil)))))))) (s_cons (d_expr (d_app 4 (d_xf (fun _ h => h) (T.xh.xf (by decide +kernel)) (d_sub' (d_var 3) d_int)))) (s_cons (d_set 4 (d_add (d_var 4) (d_lst (a_cons (d_xf (fun _ h => h) (T.xh.xf (by decide +kernel)) (d_excK (fun _ h => h) (T.zk_TooMany w) (k_cons (d_var 6) k_nil) (Nat.le_of_ble_eq_true rfl))) (a_cons (d_xf (fun _ h => h) (T.xh.xf (by decide +kernel)) (d_excK (fun _ h => h) (T.zk_NoTable w) (k_cons (d_var 6) k_nil) (Nat.le_of_ble_eq_true rfl))) (a_cons (d_xf (fun _ h => h) (T.xh.xf (by decide +kernel)) (d_excK (fun _ h => h) (T.zk_NoRow w) (k_cons (d_var 6) k_nil) (Nat.le_of_ble_eq_true rfl))) (a_cons (d_xf (fun _ h => h) (T.xh.xf (by decide +kernel)) (d_excK (fun _ h => h) (T.zk_Full w) (k_cons (d_var 6) k_nil) (Nat.le_of_ble_eq_true rfl))) a_nil))))))) (s_cons (d_set 4 (d_add (d_var 4) (d_lst (a_cons (d_xf (fun _ h => h) (T.xh.xf (by decide +kernel)) (d_excK (fun _ h => h) (T.zk_There w) (k_cons (d_var 6) k_nil) (Nat.le_of_ble_eq_true rfl))) (a_cons (d_xf (fun _ h => h) (T.xh.xf (by decide +kernel)) (d_excK (fun _ h => h) (T.zk_BadText w) (k_cons (d_var 6) k_nil) (Nat.le_of_ble_eq_true rfl))) (a_cons (d_xf (fun _ h => h) (T.xh.xf (by decide +kernel)) (d_excK (fun _ h => h) (T.zk_BadPlan w) (k_cons (d_var 6) k_nil) (Nat.le_of_ble_eq_true rfl))) a_nil)))))) (s_one (d_if (t_ne (d_repr T.n_repr (d_var 4)) (d_repr T.n_repr (d_add (d_mul2 (d_lst (a_cons (d_var 5) a_nil)) d_int) (d_mul2 (d_lst (a_cons (d_var 6) a_nil)) d_int)))) (s_one (d_ret d_bl)) s_nil))))))))))) (s_one (d_ret d_bl)))) (hgood := good)
/-! the head -/
def fn : List He.DefD := [⟨("_law_deck", none), "_law_deck", "_law_deck", defArgs s__law_deck, defBody s__law_deck, defScope s__law_deck, [], []⟩,
  ⟨("_law_next", none), "_law_next", "_law_next", defArgs s__law_next, defBody s__law_next, defScope s__law_next, [], []⟩,
  ⟨("_law_one", none), "_law_one", "_law_one", defArgs s__law_one, defBody s__law_one, defScope s__law_one, [], []⟩,
  ⟨("_law_kinds", none), "_law_kinds", "_law_kinds", defArgs s__law_kinds, defBody s__law_kinds, defScope s__law_kinds, [], []⟩,
  ⟨("_law_value", none), "_law_value", "_law_value", defArgs s__law_value, defBody s__law_value, defScope s__law_value, [], []⟩,
  ⟨("law", none), "law", "law", defArgs s_law, defBody s_law, defScope s_law, [], []⟩]
def tb : List (Str × List D) := []
def fa : List He.Fa := [.glo "_law_deck", .glo "_law_next", .glo "_law_one", .glo "_law_kinds", .glo "_law_value", .glo "law", .free "ValueError", .free "abs", .free "enumerate", .free "int", .free "isinstance", .free "len", .free "range", .free "repr", .free "super", .glo "BadPlan", .glo "BadText", .glo "Full", .glo "NoRow", .glo "NoTable", .glo "NoThin", .glo "NothingDone", .glo "RateError", .glo "There", .glo "TooLong", .glo "TooMany"]
abbrev R : PySem.W.OpenRow := PySem.W.OpenLaw.row PySem.Challenge.rw_keyrates_k01_errors_by_hand
abbrev i_BadPlan : Stmt := clsB (topS 11) 0
def xd_BadPlan : XcD := ⟨"BadPlan", "number", defArgs i_BadPlan, defBody i_BadPlan, defScope i_BadPlan⟩
abbrev i_BadText : Stmt := clsB (topS 10) 0
def xd_BadText : XcD := ⟨"BadText", "place", defArgs i_BadText, defBody i_BadText, defScope i_BadText⟩
abbrev i_Full : Stmt := clsB (topS 5) 0
def xd_Full : XcD := ⟨"Full", "table", defArgs i_Full, defBody i_Full, defScope i_Full⟩
abbrev i_NoRow : Stmt := clsB (topS 4) 0
def xd_NoRow : XcD := ⟨"NoRow", "row", defArgs i_NoRow, defBody i_NoRow, defScope i_NoRow⟩
abbrev i_NoTable : Stmt := clsB (topS 3) 0
def xd_NoTable : XcD := ⟨"NoTable", "table", defArgs i_NoTable, defBody i_NoTable, defScope i_NoTable⟩
abbrev i_NoThin : Stmt := clsB (topS 7) 0
def xd_NoThin : XcD := ⟨"NoThin", "number", defArgs i_NoThin, defBody i_NoThin, defScope i_NoThin⟩
abbrev i_NothingDone : Stmt := clsB (topS 9) 0
def xd_NothingDone : XcD := ⟨"NothingDone", "number", defArgs i_NothingDone, defBody i_NothingDone, defScope i_NothingDone⟩
abbrev i_There : Stmt := clsB (topS 6) 0
def xd_There : XcD := ⟨"There", "row", defArgs i_There, defBody i_There, defScope i_There⟩
abbrev i_TooLong : Stmt := clsB (topS 8) 0
def xd_TooLong : XcD := ⟨"TooLong", "number", defArgs i_TooLong, defBody i_TooLong, defScope i_TooLong⟩
abbrev i_TooMany : Stmt := clsB (topS 2) 0
def xd_TooMany : XcD := ⟨"TooMany", "number", defArgs i_TooMany, defBody i_TooMany, defScope i_TooMany⟩
def xs : List XcD := [xd_BadPlan, xd_BadText, xd_Full, xd_NoRow, xd_NoTable, xd_NoThin, xd_NothingDone, xd_There, xd_TooLong, xd_TooMany]
def lps : List He.Defn := []
def exZ : PySem.W.Frag → Bool := fun K => xhB K XCS XTS XFS
abbrev hk : PySem.W.Hook := hookZ 4 fa fn tb lps xs exZ "/claim/cut.py"
def ob (s : PySem.W.SharedT) : AlZ := obsZ 4 fa fn tb lps xs exZ "/claim/cut.py" (HandSHeadRun.getT s)
theorem ob_eq (s : PySem.W.SharedT) : ob s = hk.obs s.abs := obsZ_eq (HandSHeadRun.getT_eq s)
def names : List PySem.Str := ["RateError", "TooMany", "NoTable", "NoRow", "Full", "There", "NoThin", "TooLong", "NothingDone", "BadText", "BadPlan", "_law_deck", "_law_next", "_law_one", "_law_kinds", "_law_value"]
theorem run (w : World) : HandSHeadRun.RunEq R (PySem.W.view R.prog [18]) hk ob 4000 names w := by
  intro os
  kernel_rfl
theorem facts {K : PySem.W.Frag} {h : Heap} {mg : Str → Option Value} {base : Heap} (X : K.In h) (G : h.Ns mainGlobals mg) (ce : SaysZ fa fn tb lps xs exZ "/claim/cut.py" h K) : Tx PySem.Challenge.pw_keyrates_k01_errors_by_hand K mg base  :=
  let c := ce.e.d
  {
    d__law_deck := by
      obtain ⟨fd, F⟩ := c.def_ 0 (d := ⟨("_law_deck", none), "_law_deck", "_law_deck", defArgs s__law_deck, defBody s__law_deck, defScope s__law_deck, [], []⟩) rfl
      exact ⟨_, fd, funOf F, He.glo_ok X G (c.fact 0 (f := .glo "_law_deck") rfl), FunD.bindsN (ps := ["_law_script"]) F fun _ _ _ _ _ _ us hl => match us, hl with | [_], _ => rfl⟩
    d__law_next := by
      obtain ⟨fd, F⟩ := c.def_ 1 (d := ⟨("_law_next", none), "_law_next", "_law_next", defArgs s__law_next, defBody s__law_next, defScope s__law_next, [], []⟩) rfl
      exact ⟨_, fd, funOf F, He.glo_ok X G (c.fact 1 (f := .glo "_law_next") rfl), FunD.bindsN (ps := ["_law_deck_here", "_law_many"]) F fun _ _ _ _ _ _ us hl => match us, hl with | [_, _], _ => rfl, (fun _ h => nomatch h)⟩
    d__law_one := by
      obtain ⟨fd, F⟩ := c.def_ 2 (d := ⟨("_law_one", none), "_law_one", "_law_one", defArgs s__law_one, defBody s__law_one, defScope s__law_one, [], []⟩) rfl
      exact ⟨_, fd, funOf F, He.glo_ok X G (c.fact 2 (f := .glo "_law_one") rfl), FunD.bindsN (ps := ["_law_deck_here", "_law_items"]) F fun _ _ _ _ _ _ us hl => match us, hl with | [_, _], _ => rfl, (fun _ h => nomatch h)⟩
    d__law_kinds := by
      obtain ⟨fd, F⟩ := c.def_ 3 (d := ⟨("_law_kinds", none), "_law_kinds", "_law_kinds", defArgs s__law_kinds, defBody s__law_kinds, defScope s__law_kinds, [], []⟩) rfl
      exact ⟨_, fd, funOf F, He.glo_ok X G (c.fact 3 (f := .glo "_law_kinds") rfl), FunD.bindsN (ps := ["_law_e"]) F fun _ _ _ _ _ _ us hl => match us, hl with | [_], _ => rfl, (fun _ h => nomatch h)⟩
    d__law_value := by
      obtain ⟨fd, F⟩ := c.def_ 4 (d := ⟨("_law_value", none), "_law_value", "_law_value", defArgs s__law_value, defBody s__law_value, defScope s__law_value, [], []⟩) rfl
      exact ⟨_, fd, funOf F, He.glo_ok X G (c.fact 4 (f := .glo "_law_value") rfl), FunD.bindsN (ps := ["_law_deck_here"]) F fun _ _ _ _ _ _ us hl => match us, hl with | [_], _ => rfl, (fun _ h => nomatch h)⟩
    z_BadPlan := fun w => rz_of (d := xd_BadPlan) (by kernel_rfl) (by kernel_rfl) (He.free_ok X G (c.fact 14 (f := .free "super") rfl)) (He.glo_ok X G (c.fact 15 (f := .glo "BadPlan") rfl)) (ce.xo _ (.head _)).2 (ce.xo _ (.head _)).1 rfl (fun _ => rfl) rfl (fun _ _ _ _ _ _ _ _ us hl => match us, hl with | [_, _], _ => rfl) rfl rfl rfl rfl rfl (by decide +kernel) rfl rfl (by decide) (by decide) (by decide)
    z_BadText := fun w => rz_of (d := xd_BadText) (by kernel_rfl) (by kernel_rfl) (He.free_ok X G (c.fact 14 (f := .free "super") rfl)) (He.glo_ok X G (c.fact 16 (f := .glo "BadText") rfl)) (ce.xo _ (.tail _ (.head _))).2 (ce.xo _ (.tail _ (.head _))).1 rfl (fun _ => rfl) rfl (fun _ _ _ _ _ _ _ _ us hl => match us, hl with | [_, _], _ => rfl) rfl rfl rfl rfl rfl (by decide +kernel) rfl rfl (by decide) (by decide) (by decide)
    z_Full := fun w => rz_of (d := xd_Full) (by kernel_rfl) (by kernel_rfl) (He.free_ok X G (c.fact 14 (f := .free "super") rfl)) (He.glo_ok X G (c.fact 17 (f := .glo "Full") rfl)) (ce.xo _ (.tail _ (.tail _ (.head _)))).2 (ce.xo _ (.tail _ (.tail _ (.head _)))).1 rfl (fun _ => rfl) rfl (fun _ _ _ _ _ _ _ _ us hl => match us, hl with | [_, _], _ => rfl) rfl rfl rfl rfl rfl (by decide +kernel) rfl rfl (by decide) (by decide) (by decide)
    z_NoRow := fun w => rz_of (d := xd_NoRow) (by kernel_rfl) (by kernel_rfl) (He.free_ok X G (c.fact 14 (f := .free "super") rfl)) (He.glo_ok X G (c.fact 18 (f := .glo "NoRow") rfl)) (ce.xo _ (.tail _ (.tail _ (.tail _ (.head _))))).2 (ce.xo _ (.tail _ (.tail _ (.tail _ (.head _))))).1 rfl (fun _ => rfl) rfl (fun _ _ _ _ _ _ _ _ us hl => match us, hl with | [_, _], _ => rfl) rfl rfl rfl rfl rfl (by decide +kernel) rfl rfl (by decide) (by decide) (by decide)
    z_NoTable := fun w => rz_of (d := xd_NoTable) (by kernel_rfl) (by kernel_rfl) (He.free_ok X G (c.fact 14 (f := .free "super") rfl)) (He.glo_ok X G (c.fact 19 (f := .glo "NoTable") rfl)) (ce.xo _ (.tail _ (.tail _ (.tail _ (.tail _ (.head _)))))).2 (ce.xo _ (.tail _ (.tail _ (.tail _ (.tail _ (.head _)))))).1 rfl (fun _ => rfl) rfl (fun _ _ _ _ _ _ _ _ us hl => match us, hl with | [_, _], _ => rfl) rfl rfl rfl rfl rfl (by decide +kernel) rfl rfl (by decide) (by decide) (by decide)
    z_NoThin := fun w => rz0_of (d := xd_NoThin) (by kernel_rfl) (by kernel_rfl) (He.free_ok X G (c.fact 14 (f := .free "super") rfl)) (He.glo_ok X G (c.fact 20 (f := .glo "NoThin") rfl)) (ce.xo _ (.tail _ (.tail _ (.tail _ (.tail _ (.tail _ (.head _))))))).2 (ce.xo _ (.tail _ (.tail _ (.tail _ (.tail _ (.tail _ (.head _))))))).1 rfl (fun _ => rfl) rfl (fun _ _ _ _ _ _ _ _ us hl => match us, hl with | [_], _ => rfl) rfl rfl rfl rfl (by decide +kernel) rfl rfl
    z_NothingDone := fun w => rz0_of (d := xd_NothingDone) (by kernel_rfl) (by kernel_rfl) (He.free_ok X G (c.fact 14 (f := .free "super") rfl)) (He.glo_ok X G (c.fact 21 (f := .glo "NothingDone") rfl)) (ce.xo _ (.tail _ (.tail _ (.tail _ (.tail _ (.tail _ (.tail _ (.head _)))))))).2 (ce.xo _ (.tail _ (.tail _ (.tail _ (.tail _ (.tail _ (.tail _ (.head _)))))))).1 rfl (fun _ => rfl) rfl (fun _ _ _ _ _ _ _ _ us hl => match us, hl with | [_], _ => rfl) rfl rfl rfl rfl (by decide +kernel) rfl rfl
    z_There := fun w => rz_of (d := xd_There) (by kernel_rfl) (by kernel_rfl) (He.free_ok X G (c.fact 14 (f := .free "super") rfl)) (He.glo_ok X G (c.fact 23 (f := .glo "There") rfl)) (ce.xo _ (.tail _ (.tail _ (.tail _ (.tail _ (.tail _ (.tail _ (.tail _ (.head _))))))))).2 (ce.xo _ (.tail _ (.tail _ (.tail _ (.tail _ (.tail _ (.tail _ (.tail _ (.head _))))))))).1 rfl (fun _ => rfl) rfl (fun _ _ _ _ _ _ _ _ us hl => match us, hl with | [_, _], _ => rfl) rfl rfl rfl rfl rfl (by decide +kernel) rfl rfl (by decide) (by decide) (by decide)
    z_TooLong := fun w => rz0_of (d := xd_TooLong) (by kernel_rfl) (by kernel_rfl) (He.free_ok X G (c.fact 14 (f := .free "super") rfl)) (He.glo_ok X G (c.fact 24 (f := .glo "TooLong") rfl)) (ce.xo _ (.tail _ (.tail _ (.tail _ (.tail _ (.tail _ (.tail _ (.tail _ (.tail _ (.head _)))))))))).2 (ce.xo _ (.tail _ (.tail _ (.tail _ (.tail _ (.tail _ (.tail _ (.tail _ (.tail _ (.head _)))))))))).1 rfl (fun _ => rfl) rfl (fun _ _ _ _ _ _ _ _ us hl => match us, hl with | [_], _ => rfl) rfl rfl rfl rfl (by decide +kernel) rfl rfl
    z_TooMany := fun w => rz_of (d := xd_TooMany) (by kernel_rfl) (by kernel_rfl) (He.free_ok X G (c.fact 14 (f := .free "super") rfl)) (He.glo_ok X G (c.fact 25 (f := .glo "TooMany") rfl)) (ce.xo _ (.tail _ (.tail _ (.tail _ (.tail _ (.tail _ (.tail _ (.tail _ (.tail _ (.tail _ (.head _))))))))))).2 (ce.xo _ (.tail _ (.tail _ (.tail _ (.tail _ (.tail _ (.tail _ (.tail _ (.tail _ (.tail _ (.head _))))))))))).1 rfl (fun _ => rfl) rfl (fun _ _ _ _ _ _ _ _ us hl => match us, hl with | [_, _], _ => rfl) rfl rfl rfl rfl rfl (by decide +kernel) rfl rfl (by decide) (by decide) (by decide)
    g_TooMany := (He.glo_ok X G (c.fact 25 (f := .glo "TooMany") rfl))
    g_NoTable := (He.glo_ok X G (c.fact 19 (f := .glo "NoTable") rfl))
    g_NoRow := (He.glo_ok X G (c.fact 18 (f := .glo "NoRow") rfl))
    g_Full := (He.glo_ok X G (c.fact 17 (f := .glo "Full") rfl))
    g_There := (He.glo_ok X G (c.fact 23 (f := .glo "There") rfl))
    g_NoThin := (He.glo_ok X G (c.fact 20 (f := .glo "NoThin") rfl))
    g_TooLong := (He.glo_ok X G (c.fact 24 (f := .glo "TooLong") rfl))
    g_NothingDone := (He.glo_ok X G (c.fact 21 (f := .glo "NothingDone") rfl))
    g_BadText := (He.glo_ok X G (c.fact 16 (f := .glo "BadText") rfl))
    g_BadPlan := (He.glo_ok X G (c.fact 15 (f := .glo "BadPlan") rfl))
    g_RateError := (He.glo_ok X G (c.fact 22 (f := .glo "RateError") rfl))
    zk_BadPlan := fun w => rzk_of (d := xd_BadPlan) (by kernel_rfl) (by kernel_rfl) (He.free_ok X G (c.fact 14 (f := .free "super") rfl)) (He.glo_ok X G (c.fact 15 (f := .glo "BadPlan") rfl)) (ce.xo _ (.head _)).2 (ce.xo _ (.head _)).1 rfl (fun _ => rfl) rfl (fun _ _ _ _ _ _ _ _ us hl => match us, hl with | [_, _], _ => rfl) rfl rfl rfl rfl rfl (by decide +kernel) rfl rfl (by decide) (by decide) (by decide) (fun _ _ _ _ _ _ _ _ _ _ => rfl)
    zk_BadText := fun w => rzk_of (d := xd_BadText) (by kernel_rfl) (by kernel_rfl) (He.free_ok X G (c.fact 14 (f := .free "super") rfl)) (He.glo_ok X G (c.fact 16 (f := .glo "BadText") rfl)) (ce.xo _ (.tail _ (.head _))).2 (ce.xo _ (.tail _ (.head _))).1 rfl (fun _ => rfl) rfl (fun _ _ _ _ _ _ _ _ us hl => match us, hl with | [_, _], _ => rfl) rfl rfl rfl rfl rfl (by decide +kernel) rfl rfl (by decide) (by decide) (by decide) (fun _ _ _ _ _ _ _ _ _ _ => rfl)
    zk_Full := fun w => rzk_of (d := xd_Full) (by kernel_rfl) (by kernel_rfl) (He.free_ok X G (c.fact 14 (f := .free "super") rfl)) (He.glo_ok X G (c.fact 17 (f := .glo "Full") rfl)) (ce.xo _ (.tail _ (.tail _ (.head _)))).2 (ce.xo _ (.tail _ (.tail _ (.head _)))).1 rfl (fun _ => rfl) rfl (fun _ _ _ _ _ _ _ _ us hl => match us, hl with | [_, _], _ => rfl) rfl rfl rfl rfl rfl (by decide +kernel) rfl rfl (by decide) (by decide) (by decide) (fun _ _ _ _ _ _ _ _ _ _ => rfl)
    zk_NoRow := fun w => rzk_of (d := xd_NoRow) (by kernel_rfl) (by kernel_rfl) (He.free_ok X G (c.fact 14 (f := .free "super") rfl)) (He.glo_ok X G (c.fact 18 (f := .glo "NoRow") rfl)) (ce.xo _ (.tail _ (.tail _ (.tail _ (.head _))))).2 (ce.xo _ (.tail _ (.tail _ (.tail _ (.head _))))).1 rfl (fun _ => rfl) rfl (fun _ _ _ _ _ _ _ _ us hl => match us, hl with | [_, _], _ => rfl) rfl rfl rfl rfl rfl (by decide +kernel) rfl rfl (by decide) (by decide) (by decide) (fun _ _ _ _ _ _ _ _ _ _ => rfl)
    zk_NoTable := fun w => rzk_of (d := xd_NoTable) (by kernel_rfl) (by kernel_rfl) (He.free_ok X G (c.fact 14 (f := .free "super") rfl)) (He.glo_ok X G (c.fact 19 (f := .glo "NoTable") rfl)) (ce.xo _ (.tail _ (.tail _ (.tail _ (.tail _ (.head _)))))).2 (ce.xo _ (.tail _ (.tail _ (.tail _ (.tail _ (.head _)))))).1 rfl (fun _ => rfl) rfl (fun _ _ _ _ _ _ _ _ us hl => match us, hl with | [_, _], _ => rfl) rfl rfl rfl rfl rfl (by decide +kernel) rfl rfl (by decide) (by decide) (by decide) (fun _ _ _ _ _ _ _ _ _ _ => rfl)
    zk_There := fun w => rzk_of (d := xd_There) (by kernel_rfl) (by kernel_rfl) (He.free_ok X G (c.fact 14 (f := .free "super") rfl)) (He.glo_ok X G (c.fact 23 (f := .glo "There") rfl)) (ce.xo _ (.tail _ (.tail _ (.tail _ (.tail _ (.tail _ (.tail _ (.tail _ (.head _))))))))).2 (ce.xo _ (.tail _ (.tail _ (.tail _ (.tail _ (.tail _ (.tail _ (.tail _ (.head _))))))))).1 rfl (fun _ => rfl) rfl (fun _ _ _ _ _ _ _ _ us hl => match us, hl with | [_, _], _ => rfl) rfl rfl rfl rfl rfl (by decide +kernel) rfl rfl (by decide) (by decide) (by decide) (fun _ _ _ _ _ _ _ _ _ _ => rfl)
    zk_TooMany := fun w => rzk_of (d := xd_TooMany) (by kernel_rfl) (by kernel_rfl) (He.free_ok X G (c.fact 14 (f := .free "super") rfl)) (He.glo_ok X G (c.fact 25 (f := .glo "TooMany") rfl)) (ce.xo _ (.tail _ (.tail _ (.tail _ (.tail _ (.tail _ (.tail _ (.tail _ (.tail _ (.tail _ (.head _))))))))))).2 (ce.xo _ (.tail _ (.tail _ (.tail _ (.tail _ (.tail _ (.tail _ (.tail _ (.tail _ (.tail _ (.head _))))))))))).1 rfl (fun _ => rfl) rfl (fun _ _ _ _ _ _ _ _ us hl => match us, hl with | [_, _], _ => rfl) rfl rfl rfl rfl rfl (by decide +kernel) rfl rfl (by decide) (by decide) (by decide) (fun _ _ _ _ _ _ _ _ _ _ => rfl)
    xh := xhB_ok ce.ex
    c_ValueError := He.free_ok X G (c.fact 6 (f := .free "ValueError") rfl)
    n_abs := He.free_ok X G (c.fact 7 (f := .free "abs") rfl)
    n_enumerate := He.free_ok X G (c.fact 8 (f := .free "enumerate") rfl)
    n_int := He.free_ok X G (c.fact 9 (f := .free "int") rfl)
    n_isinstance := He.free_ok X G (c.fact 10 (f := .free "isinstance") rfl)
    n_len := He.free_ok X G (c.fact 11 (f := .free "len") rfl)
    n_range := He.free_ok X G (c.fact 12 (f := .free "range") rfl)
    n_repr := He.free_ok X G (c.fact 13 (f := .free "repr") rfl)
    c_super := He.free_ok X G (c.fact 14 (f := .free "super") rfl)
  }
theorem holds (good : ∀ ns : List Int, ns.length ≤ 63 → ∃ st' g', B_law lawSlots (deck0 ns) = some (.rt (.bl true), st', g')) : PySem.Challenge.rw_keyrates_k01_errors_by_hand.Holds := by
  w_on; o_law
  refine HandSHeadRun.head_any (r := PySem.W.OpenLaw.row PySem.Challenge.rw_keyrates_k01_errors_by_hand) (q := PySem.W.view (PySem.W.OpenLaw.row PySem.Challenge.rw_keyrates_k01_errors_by_hand).prog [18]) (H := hk) (ob := ob) (M := 4000) (loose := names) (d := HandSHeadRun.topDef (PySem.W.OpenLaw.row PySem.Challenge.rw_keyrates_k01_errors_by_hand).prog 18) (kwd := []) ob_eq
    (by kernel_rfl) (fun s => by kernel_rfl) run (by kernel_rfl) (by kernel_rfl) (by kernel_rfl) (by rfl) (by first | assumption | decide +kernel) (by decide +kernel) ⟨rfl, rfl, rfl, rfl, rfl, by decide +kernel⟩ ?hw ?hc
  case hw => w_witness2
  case hc =>
    refine walkGTs (l := PySem.Challenge.rw_keyrates_k01_errors_by_hand) (n := 63) (k := 4) (x := "_law_script") rfl (by decide) (by kernel_rfl) ⟨rfl, by decide, by decide⟩ ?F
    intro w mg a h Y G hmg0
    obtain ⟨K, KX, ce⟩ := Y
    have c := ce.e.d
    have e : (HandSHeadRun.topDef (PySem.W.OpenLaw.row PySem.Challenge.rw_keyrates_k01_errors_by_hand).prog 18).name = ("law" : PySem.Str) := by kernel_rfl
    rw [e] at hmg0
    obtain ⟨fd, F⟩ := c.def_ 5 (d := ⟨("law", none), "law", "law", defArgs s_law, defBody s_law, defScope s_law, [], []⟩) rfl
    have e2 := hmg0.symm.trans (He.glo_ok KX G (c.fact 5 (f := .glo "law") rfl))
    cases e2
    have b := FunD.bindsA (ps := ["_law_script"]) F fun _ _ _ _ _ _ us hl => match us, hl with | [_], _ => rfl
    have F2 : Fun K "law" "law" s_law (He.fAd K ("law", none)) fd := funOf F
    exact ⟨K, fd, spTrue K, [], KX, (fun p hp => nomatch hp), (fun p hp => nomatch hp), (fun p hp => nomatch hp), fun s v => b s [v] rfl, fun H a ns hl _ hS => ⟨a, ns, rfl, hS, hl, fun _ => rfl⟩, fun base _ _ _ => D_law good (facts KX G ce) F2⟩
end K01
namespace DL
open PySem PySem.Spec PyProof.Rows L2
variable {os : List Ob}
theorem opAdd_lst {a b : List D} (h : a.length + b.length ≤ sizeLine) : opAdd (.lst a) (.lst b) = some (.ow (.lst (a ++ b))) := by simp [opAdd, h]
/-! ### values put otherwise -/
end DL
namespace DL
open PySem PySem.Spec PyProof.Rows L2
/-! ### small tools -/
/-! ### pairs, rows, rising -/
/-! ### names, by the law -/
end DL
namespace DL
open PySem PySem.Spec PyProof.Rows L2
end DL
namespace DL
open PySem PySem.Spec PyProof.Rows L2
/-! ### schemes are fine -/
theorem wts_map {α : Type} (l : List α) (f : α → D) (B : Nat) (h : ∀ a ∈ l, wt (f a) ≤ B) : wts (l.map f) ≤ l.length * (B + 2) := by
  induction l with
  | nil => simp [wts]
  | cons a l ih =>
    have h1 := h a List.mem_cons_self
    have h2 := ih fun a ha => h a (List.mem_cons_of_mem _ ha)
    simp only [List.map_cons, wts, List.length_cons, Nat.succ_mul]
    omega
theorem wts_le {l : List D} {B : Nat} (h : ∀ d ∈ l, wt d ≤ B) : wts l ≤ l.length * (B + 2) := by
  have := wts_map l id B h
  rw [List.map_id] at this; exact this
theorem Fi.list_lst {l : List D} {B k L N : Nat} (h : ∀ d ∈ l, Fi B k d) (hl : l.length ≤ L) (hN : L * (B + 2) + 3 ≤ N) : Fi N (k + 1) (.lst l) :=
  Fi.lst (fun d hd => ⟨(h d hd).ok, (h d hd).dp⟩) (by
    have := wts_le fun d hd => (h d hd).w
    have : l.length * (B + 2) ≤ L * (B + 2) := Nat.mul_le_mul_right _ hl
    omega)
theorem fi_i {i : Int} (h : i.natAbs < 2 ^ 1920) : Fi 2000 0 (.int i) := ⟨by
  have : i.natAbs.log2 < 1920 := by
    by_cases e : i.natAbs = 0
    · rw [e]; decide
    · exact (Nat.log2_lt e).mpr h
  simp only [okD, this, decide_true], by simp [wt], by simp [D.py, PyData.depth]⟩
end DL
namespace DL
open PySem PySem.Spec PyProof.Rows L2
@[simp] theorem opApp_lst {l : List D} {d : D} (h : l.length < sizeLine) : opApp (.lst l) d = some (.lst (l ++ [d])) := by
  simp [opApp, h]
end DL
namespace DL
open PySem PySem.Spec PyProof.Rows L2
/-! ### whole numbers, rows, tables -/
section
variable {N k w : Nat} {v : D} {l : List D} {g : Dk}
/-- a row of numbers -/
def rowE (r : List Int) : D := .tup (r.map D.int)
end
end DL
namespace DL
open PySem PySem.Spec PyProof.Rows L2
variable {os : List Ob}
/-! ### sets of rows -/
/-! ### tables -/
structure Tab (m w : Nat) (t : List (List Int)) : Prop where
  few : t.length ≤ m
  wide : ∀ r ∈ t, r.length = w
  key : ∀ r ∈ t, ∀ i ∈ r, 0 ≤ i ∧ i ≤ 99
  asc : Asc (t.map rowE)
structure Tabs (m : Nat) (hs : List (Str × List Str)) (ts : List (List (List Int))) : Prop where
  len : ts.length = hs.length
  tab : ∀ p ∈ hs.zip ts, Tab m p.1.2.length p.2
/-! ### dials of columns -/
end DL
namespace DL
open PySem PySem.Spec PyProof.Rows L2
theorem opNe_same (s : Str) : opNe (.str s) (.str s) = some (.sh (.bl false)) := by rw [opNe_str]; simp
end DL
namespace K01
open PySem PySem.Spec PyProof.Rows L2 DL
def put (g : Dk) (l : List Ob) : Dk := { g with objs := g.objs ++ l }
def ln (g : Dk) : Nat := g.objs.length
def eo (g : Dk) (i : Nat) : D := .obj ((ln g) + i + 4)
section
variable {g : Dk} {l m : List Ob} {i k : Nat} {st : Sl} {a : M Dk S} {u : M Dk (List D)} {c f t : Str} {d : D} {cs : List Str}
theorem put_put : put (put g l) m = put g (l ++ m) := by simp [put]
theorem ln_put : ln (put g l) = ln g + l.length := by simp [ln, put]
theorem eo_put : eo (put g l) i = eo g (l.length + i) := by simp [eo, ln, put, Nat.add_assoc]
theorem at_put : (put g l).objs[(ln g) + i]? = l[i]? := by
  show (g.objs ++ l)[g.objs.length + i]? = _
  rw [List.getElem?_append_right (by omega)]
  simp
theorem at_put0 : (put g l).objs[(ln g)]? = l[0]? := at_put (i := 0)
def kExc (c f : Str) (d : D) (st : Sl) (g : Dk) : Option (S × Sl × Dk) := some (.sh (eo g 1), st, put g [.xd f d, .exc c (some (ln g))])
theorem kExc_eq : kExc c f d st g = some (.sh (eo g 1), st, put g [.xd f d, .exc c (some (ln g))]) := rfl
theorem r_exc : mExc c f a st g = thn (mTake a st g) (kExc c f) .u := by
  unfold mExc DL.thn kExc put eo ln
  congr 1; funext d st g
  simp
theorem r_exc0 : mExc0 c st g = some (.sh (eo g 0), st, put g [.exc c none]) := rfl
def kExcK (c f : Str) (ds : List D) (st : Sl) (g : Dk) : Option (S × Sl × Dk) := match ds with
  | [d] => some (.sh (eo g 1), st, put g [.xd f d, .exc c (some (ln g))])
  | _ => none
theorem kExcK_eq : kExcK c f [d] st g = some (.sh (eo g 1), st, put g [.xd f d, .exc c (some (ln g))]) := rfl
theorem r_excK : mExcK c f u st g = thn (u st g) (kExcK c f) .u := by
  unfold mExcK DL.thn kExcK put eo ln
  congr 1; funext ds st g
  split <;> simp
def kXf (cs : List Str) (f : Str) (x : S) (st : Sl) (g : Dk) : Option (S × Sl × Dk) := (numO x).bind fun n => (fldX cs f g n).map fun v => (.sh v, st, g)
theorem kXf_eq : kXf cs f (.sh (eo k0 i)) st g = (fldX cs f g (ln k0 + i)).map fun v => (.sh v, st, g) := rfl
theorem r_xf : mXf cs f a st g = thn (a st g) (kXf cs f) .u := rfl
def kIsX (cs : List Str) (t : Str) (x : S) (st : Sl) (g : Dk) : Option (S × Sl × Dk) := (numO x).bind fun n => (clsX cs g n).map fun c => (.sh (.bl (isx c t)), st, g)
theorem kIsX_of {n : Nat} (h : clsX cs g n = some c) : kIsX cs t (.sh (.obj (n + 4))) st g = some (.sh (.bl (isx c t)), st, g) := by
  simp [kIsX, numO, h]
theorem r_isX : mIsX cs t a st g = thn (a st g) (kIsX cs t) .u := rfl
theorem ok_put {os : List Ob} {n : Nat} (h : Ok os n g) : Ok (os ++ l) n (put g l) := ⟨h.ne, h.lo, h.hi, h.nl, by simp [put, h.ob]⟩
end
theorem xm (c : Str) : XCS.map (fun t => D.bl (isx c t)) = [D.bl (isx c "TooMany"), D.bl (isx c "NoTable"), D.bl (isx c "NoRow"), D.bl (isx c "Full"), D.bl (isx c "There"), D.bl (isx c "NoThin"), D.bl (isx c "TooLong"), D.bl (isx c "NothingDone"), D.bl (isx c "BadText"), D.bl (isx c "BadPlan")] := rfl
theorem kinds_ok {g : Dk} {n : Nat} {c : Str} (h : clsX XCS g n = some c) : F__law_kinds [.obj (n + 4)] g = some (.lst (XCS.map fun t => .bl (isx c t)), g) := by
  refine mFn_rt (st := [some (.sh (.obj (n + 4))), some (.sh (.lst [D.bl (isx c "TooMany"), D.bl (isx c "NoTable"), D.bl (isx c "NoRow"), D.bl (isx c "Full"), D.bl (isx c "There"), D.bl (isx c "NoThin"), D.bl (isx c "TooLong"), D.bl (isx c "NothingDone")]))]) rfl ?_
  rw [xm]
  show B__law_kinds [some (.sh (.obj (n + 4))), none] g = _
  simp (dsimp := false) [B__law_kinds, r_isX, kIsX_of h, le_sz, opAdd_lst]
theorem pow30 : opPow2 (.int 10) (.int 30) = some (.sh (.int 1000000000000000000000000000000)) := by
  have h : okPow2 10 30 = true := by decide +kernel
  simp only [opPow2, opI2, h, if_true]
  rfl
def vals (r : Int) : List D := [.non, .bl true, .bl false, .int 0, .int (-1), .int 1000000000000000000000000000000, .str "", .str "sold", .tup [], .tup [.int 1, .int 2], .lst [.int 3], .tup [.tup [.int 1, .int 5], .str "x"], .tup [.str "all", .str "sold"]] ++ [.int r]
theorem vals_fi {r : Int} (h0 : 0 ≤ r) (h1 : r < 1000) : ∀ d ∈ vals r, Fi 9000 3 d := by
  intro d hd
  rcases List.mem_append.mp hd with hd | hd
  · simp only [List.mem_cons, List.not_mem_nil, or_false] at hd
    have i30 : (1000000000000000000000000000000 : Int).natAbs.log2 < 1920 := by decide +kernel
    have i0 : (0 : Int).natAbs.log2 < 1920 := by decide +kernel
    have i1 : (1 : Int).natAbs.log2 < 1920 := by decide +kernel
    have im : (-1 : Int).natAbs.log2 < 1920 := by decide +kernel
    have i2 : (2 : Int).natAbs.log2 < 1920 := by decide +kernel
    have i3 : (3 : Int).natAbs.log2 < 1920 := by decide +kernel
    have i5 : (5 : Int).natAbs.log2 < 1920 := by decide +kernel
    have s0 : strOk "" = true := by decide +kernel
    have s1 : strOk "sold" = true := by decide +kernel
    have s2 : strOk "x" = true := by decide +kernel
    have s3 : strOk "all" = true := by decide +kernel
    have l0 : ("" : Str).length = 0 := by decide +kernel
    have l1 : ("sold" : Str).length = 4 := by decide +kernel
    have l2 : ("x" : Str).length = 1 := by decide +kernel
    have l3 : ("all" : Str).length = 3 := by decide +kernel
    rcases hd with rfl | rfl | rfl | rfl | rfl | rfl | rfl | rfl | rfl | rfl | rfl | rfl | rfl <;>
      exact ⟨by simp only [okD, okDs, i30, i0, i1, im, i2, i3, i5, s0, s1, s2, s3, decide_true, Bool.and_self], by simp [wt, wts, l0, l1, l2, l3], by simp [D.py, D.pys, PyData.depth, PyData.depthAll]⟩
  · simp only [List.mem_cons, List.not_mem_nil, or_false] at hd
    subst hd
    exact (fi_i (by
      have : r.natAbs < 1000 := by omega
      exact Nat.lt_of_lt_of_le this (by decide))).mono (by decide) (by decide)
theorem value_ok {os : List Ob} {n : Nat} {g : Dk} (ok : Ok os (n + 2) g) : ∃ d g', F__law_value [.obj 0] g = some (d, g') ∧ Fi 9000 3 d ∧ Ok os n g' := by
  obtain ⟨r, g1, e1, h0, h1, ok1⟩ := next_ok (m := 1000) (n := n + 1) ok (by decide) (by decide)
  obtain ⟨d, g2, e2, hd, ok2⟩ := one_lst (n := n) (g := g1) (ds := vals r) ok1 (by simp [vals]) (by simp [vals])
  refine ⟨d, g2, mFn_rt (st := [some (.sh (.obj 0)), some (.sh (.lst ((vals 0).take 13)))]) rfl ?_, vals_fi h0 h1 d hd, ok2⟩
  show B__law_value [some (.sh (.obj 0)), none] g = _
  simp only [vals, List.cons_append, List.nil_append] at e2
  simp (dsimp := false) [B__law_value, opNeg, pow30, le_sz, opAdd_lst, e1, e2]
  rfl
theorem alike_ok : ∀ i < 10, opNe (.lst (XCS.map fun t => .bl (isx (XCS.getD i "") t))) (.lst ((List.range 10).map fun (j : Nat) => .bl (decide ((i : Int) = (j : Int))))) = some (.sh (.bl false)) := by
  intro i hi
  match i, hi with
  | 0, _ => kernel_rfl
  | 1, _ => kernel_rfl
  | 2, _ => kernel_rfl
  | 3, _ => kernel_rfl
  | 4, _ => kernel_rfl
  | 5, _ => kernel_rfl
  | 6, _ => kernel_rfl
  | 7, _ => kernel_rfl
  | 8, _ => kernel_rfl
  | 9, _ => kernel_rfl
theorem inner {g : Dk} {n i : Nat} {c : Str} {x1 x2 x3 x4 x5 x6 x9 : Option S} (hi : i < 10) (hc : XCS.getD i "" = c) (hx : clsX XCS g n = some c) (hv : isx c "RateError" = true ∧ isx c "ValueError" = true) :
    L_law_1 [none, x1, x2, x3, x4, x5, x6, some (.sh (.int i)), some (.sh (.obj (n + 4))), x9] g = some (.nx, [none, x1, x2, x3, x4, x5, x6, some (.sh (.int i)), some (.sh (.obj (n + 4))), none], g) := by
  have c0 : C_law_0 [none, x1, x2, x3, x4, x5, x6, some (.sh (.int i)), some (.sh (.obj (n + 4))), x9] g = some (.ow (.lst ((List.range 10).map fun (j : Nat) => .bl (decide ((i : Int) = (j : Int))))), [none, x1, x2, x3, x4, x5, x6, some (.sh (.int i)), some (.sh (.obj (n + 4))), none], g) := by
    unfold C_law_0
    have r10 : okR 10 = true := okR_of (by decide) (by decide)
    refine lc_all1 (List.range 10) (fun (j : Nat) => .int (0 + (j : Int))) (fun (j : Nat) => .bl (decide ((i : Int) = (j : Int)))) (cells := []) (st1 := [none, x1, x2, x3, x4, x5, x6, some (.sh (.int i)), some (.sh (.obj (n + 4))), x9]) (by simp (dsimp := false) [r10]; rfl) rfl fun j hj => ⟨_, by simp; rfl, rfl, by simp (dsimp := false) [opEq_int]⟩
  have e := alike_ok i hi
  rw [hc] at e
  simp (dsimp := false) [L_law_1, kinds_ok hx, c0, e, r_isX, kIsX_of hx, hv.1, hv.2]
def obs (m : Nat) (p : D) : List Ob := [.xd "number" p, .exc "TooMany" (some m), .xd "table" p, .exc "NoTable" (some (m + 2)), .xd "row" p, .exc "NoRow" (some (m + 4)), .xd "table" p, .exc "Full" (some (m + 6)), .xd "row" p, .exc "There" (some (m + 8)), .exc "NoThin" none, .exc "TooLong" none, .exc "NothingDone" none, .xd "place" p, .exc "BadText" (some (m + 13)), .xd "number" p, .exc "BadPlan" (some (m + 15))]
def idx : List Nat := [1, 3, 5, 7, 9, 10, 11, 12, 14, 16]
theorem mem_x : ("TooMany" : Str) ∈ XCS ∧ ("NoTable" : Str) ∈ XCS ∧ ("NoRow" : Str) ∈ XCS ∧ ("Full" : Str) ∈ XCS ∧ ("There" : Str) ∈ XCS ∧ ("NoThin" : Str) ∈ XCS ∧ ("TooLong" : Str) ∈ XCS ∧ ("NothingDone" : Str) ∈ XCS ∧ ("BadText" : Str) ∈ XCS ∧ ("BadPlan" : Str) ∈ XCS := by decide +kernel
theorem cls_at (g : Dk) (p : D) : ∀ k < 10, ∃ c, XCS.getD k "" = c ∧ clsX XCS (put g (obs (ln g) p)) ((ln g) + idx.getD k 0) = some c ∧ isx c "RateError" = true ∧ isx c "ValueError" = true := by
  intro k hk
  obtain ⟨m0, m1, m2, m3, m4, m5, m6, m7, m8, m9⟩ := mem_x
  match k, hk with
  | 0, _ => exact ⟨"TooMany", rfl, by simp [clsX, idx, obs, at_put, at_put0, m0], by decide +kernel, by decide +kernel⟩
  | 1, _ => exact ⟨"NoTable", rfl, by simp [clsX, idx, obs, at_put, at_put0, m1], by decide +kernel, by decide +kernel⟩
  | 2, _ => exact ⟨"NoRow", rfl, by simp [clsX, idx, obs, at_put, at_put0, m2], by decide +kernel, by decide +kernel⟩
  | 3, _ => exact ⟨"Full", rfl, by simp [clsX, idx, obs, at_put, at_put0, m3], by decide +kernel, by decide +kernel⟩
  | 4, _ => exact ⟨"There", rfl, by simp [clsX, idx, obs, at_put, at_put0, m4], by decide +kernel, by decide +kernel⟩
  | 5, _ => exact ⟨"NoThin", rfl, by simp [clsX, idx, obs, at_put, at_put0, m5], by decide +kernel, by decide +kernel⟩
  | 6, _ => exact ⟨"TooLong", rfl, by simp [clsX, idx, obs, at_put, at_put0, m6], by decide +kernel, by decide +kernel⟩
  | 7, _ => exact ⟨"NothingDone", rfl, by simp [clsX, idx, obs, at_put, at_put0, m7], by decide +kernel, by decide +kernel⟩
  | 8, _ => exact ⟨"BadText", rfl, by simp [clsX, idx, obs, at_put, at_put0, m8], by decide +kernel, by decide +kernel⟩
  | 9, _ => exact ⟨"BadPlan", rfl, by simp [clsX, idx, obs, at_put, at_put0, m9], by decide +kernel, by decide +kernel⟩
theorem loop (g : Dk) (p : D) (x1 x2 x3 x4 x5 x6 x7 x8 x9 : Option S) : ∃ y7 y8 y9, forM (.tp [.nm 7, .nm 8]) L_law_1 (enumD (idx.map (eo g))) [none, x1, x2, x3, x4, x5, x6, x7, x8, x9] (put g (obs (ln g) p)) = some (.nx, [none, x1, x2, x3, x4, x5, x6, y7, y8, y9], put g (obs (ln g) p)) := by
  have : wp (forM (.tp [.nm 7, .nm 8]) L_law_1 (enumD (idx.map (eo g))) [none, x1, x2, x3, x4, x5, x6, x7, x8, x9] (put g (obs (ln g) p))) fun fl st g' => fl = .nx ∧ (∃ y7 y8 y9, st = [none, x1, x2, x3, x4, x5, x6, y7, y8, y9]) ∧ g' = put g (obs (ln g) p) := by
    refine for_wp (fun _ st g' => (∃ y7 y8 y9, st = [none, x1, x2, x3, x4, x5, x6, y7, y8, y9]) ∧ g' = put g (obs (ln g) p)) ⟨⟨_, _, _, rfl⟩, rfl⟩ (fun k d st g' hi ⟨⟨y7, y8, y9, hst⟩, hg⟩ => ?_) fun st g' h => ⟨rfl, h⟩
    subst hst hg
    have hk : k < 10 := by have := (List.getElem?_eq_some_iff.mp hi).1; simpa [enumD, idx] using this
    have hd : d = .tup [.int (k : Nat), eo g (idx.getD k 0)] := by
      have h2 : idx[k]? = some (idx.getD k 0) := by
        have : k < idx.length := hk
        simp [this]
      simp only [enumD, List.getElem?_mapIdx, List.getElem?_map, h2, Option.map_some, Option.some.injEq] at hi
      exact hi.symm
    subst hd
    obtain ⟨c, hc, hx, hv⟩ := cls_at g p k hk
    generalize idx.getD k 0 = j at hx ⊢
    refine ⟨_, by simp; rfl, ?_⟩
    rw [show eo g j = .obj ((ln g) + j + 4) from rfl]
    have e := inner (x1 := x1) (x2 := x2) (x3 := x3) (x4 := x4) (x5 := x5) (x6 := x6) (x9 := y9) hk hc hx hv
    exact ⟨_, _, _, e, rfl, ⟨_, _, _, rfl⟩, rfl⟩
  obtain ⟨fl, st, g', e, rfl, ⟨y7, y8, y9, rfl⟩, rfl⟩ := this
  exact ⟨y7, y8, y9, e⟩
theorem ati {l : List D} {k : Nat} {d : D} (h : l[k]? = some d) : atI l (k : Int) = some d := by
  have hl := (List.getElem?_eq_some_iff.mp h).1
  have : ((k : Nat) : Int) < (l.length : Int) := by omega
  simp [atI, ixN, this, h]
def kEnum (d : D) (st : Sl) (g : Dk) : Option ((List D × List S) × Sl × Dk) := match d with
  | .lst ds => some ((enumD ds, [.sh (.lst ds)]), st, g)
  | _ => none
theorem kEnum_eq {ds : List D} {st : Sl} {g : Dk} : kEnum (.lst ds) st g = some ((enumD ds, [.sh (.lst ds)]), st, g) := rfl
theorem r_enum {a : M Dk S} {st : Sl} {g : Dk} : srcEnum a st g = thn (mTake a st g) kEnum .u := by
  unfold srcEnum DL.thn
  congr 1
theorem body_ok {os : List Ob} {n : Nat} {g : Dk} {x2 x3 x4 x5 x6 x7 x8 x9 : Option S} (ok : Ok os (n + 4) g) : wp (L_law_2 [none, some (.sh (.obj 0)), x2, x3, x4, x5, x6, x7, x8, x9] g) fun fl st g' => fl = .nx ∧ (∃ y3 y4 y5 y6 y7 y8 y9, st = [none, some (.sh (.obj 0)), x2, y3, y4, y5, y6, y7, y8, y9]) ∧ ∃ os', Ok os' n g' := by
  obtain ⟨p, g1, e1, fp, ok1⟩ := value_ok (n := n + 2) ok
  obtain ⟨q, g2, e2, fq, ok2⟩ := value_ok (n := n) ok1
  obtain ⟨y7, y8, y9, el⟩ := loop g2 p (some (.sh (.obj 0))) x2 (some (.sh (.lst (idx.map (eo g2))))) x4 (some (.sh p)) (some (.sh q)) x7 x8 x9
  simp only [obs, idx, List.map_cons, List.map_nil] at el
  obtain ⟨m0, m1, m2, m3, m4, m5, m6, m7, m8, m9⟩ := mem_x
  have a2 : ∀ (a b c : D) l, atI (a :: b :: c :: l) 2 = some c := fun a b c l => ati (k := 2) rfl
  have a3 : ∀ (a b c d : D) l, atI (a :: b :: c :: d :: l) 3 = some d := fun a b c d l => ati (k := 3) rfl
  have a4 : ∀ (a b c d e : D) l, atI (a :: b :: c :: d :: e :: l) 4 = some e := fun a b c d e l => ati (k := 4) rfl
  have a8 : ∀ (a b c d e f h i j : D) l, atI (a :: b :: c :: d :: e :: f :: h :: i :: j :: l) 8 = some j := fun _ _ _ _ _ _ _ _ _ _ => ati (k := 8) rfl
  have a9 : ∀ (a b c d e f h i j k : D) l, atI (a :: b :: c :: d :: e :: f :: h :: i :: j :: k :: l) 9 = some k := fun _ _ _ _ _ _ _ _ _ _ _ => ati (k := 9) rfl
  have rp : opRepr (.lst [p, p, p, p, p, p, p, q, q, q, q, q, q, q]) = some (.sh (.str (D.lst [p, p, p, p, p, p, p, q, q, q, q, q, q, q]).py.shown)) := by
    refine Fi.repr (n := 200000) (k := 4) (Fi.list_lst (B := 9000) (L := 14) (fun d hd => ?_) (by simp) (by decide)) (by decide) (by decide)
    simp only [List.mem_cons, List.not_mem_nil, or_false] at hd
    rcases hd with rfl | rfl | rfl | rfl | rfl | rfl | rfl | rfl | rfl | rfl | rfl | rfl | rfl | rfl <;> assumption
  have mp : ∀ d, opMul2 (.lst [d]) (.int 7) = some (.ow (.lst [d, d, d, d, d, d, d])) := fun d => by
    simp [opMul2, opMul, sizeLine_eq]
  simp (dsimp := false) [L_law_2, e1, e2, r_exc, kExc_eq, r_exc0, put_put, ln_put, eo_put, le_sz, opApp, r_enum, kEnum_eq, sizeLine_eq]
  rw [el]
  simp (dsimp := false) [r_xf, kXf_eq, r_excK, kExcK_eq, put_put, ln_put, eo_put, le_sz, opApp, opAdd_lst, sizeLine_eq, fldX, at_put, at_put0, m0, m1, m2, m3, m4, m8, m9, a2, a3, a4, a8, a9, rp, mp, opNe_same]
  exact ⟨_, ok_put ok2⟩
theorem good (ns : List Int) (hz : ns.length ≤ 63) : ∃ st' g', B_law lawSlots (deck0 ns) = some (.rt (.bl true), st', g') := by
  have ls : lawSlots = [none, some (.sh (.obj 0)), none, none, none, none, none, none, none, none] := rfl
  have r6 : okR 6 = true := okR_of (by decide) (by decide)
  have : wp (B_law lawSlots (deck0 ns)) fun fl _ _ => fl = .rt (.bl true) := by
    rw [ls]
    simp (dsimp := false) [B_law, r6]
    refine wp_thn ?_
    refine for_wp (fun i st g => ∃ x2 x3 x4 x5 x6 x7 x8 x9, st = [none, some (.sh (.obj 0)), x2, x3, x4, x5, x6, x7, x8, x9] ∧ (i ≤ 6 → ∃ os, Ok os ((6 - i) * 4) g)) ⟨_, _, _, _, _, _, _, _, rfl, fun _ => ⟨_, (deck0_ok ns).mono (by decide)⟩⟩ (fun i d st g hi ⟨x2, x3, x4, x5, x6, x7, x8, x9, hst, hok⟩ => ?_) fun st g ⟨x2, x3, x4, x5, x6, x7, x8, x9, hst, hok⟩ => ?_
    · subst hst
      have hil : i < 6 := by have := (List.getElem?_eq_some_iff.mp hi).1; rw [rangeD_len] at this; exact this
      obtain ⟨os, ho⟩ := hok (by omega)
      refine ⟨_, by simp; rfl, ?_⟩
      refine wp_mono (body_ok (n := (6 - (i + 1)) * 4) (ho.mono (by omega))) fun fl st' g' ⟨h1, ⟨y3, y4, y5, y6, y7, y8, y9, h2⟩, h3⟩ => ⟨h1, _, _, _, _, _, _, _, _, h2, fun _ => h3⟩
    · subst hst
      simp
  obtain ⟨fl, st, g, e, rfl⟩ := this
  exact ⟨st, g, e⟩
end K01
theorem PySem.Challenge.cw_keyrates_k01_errors_by_hand_holds : PySem.Challenge.rw_keyrates_k01_errors_by_hand.Holds := by
  exact K01.holds K01.good
