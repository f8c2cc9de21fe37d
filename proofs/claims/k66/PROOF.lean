import PyProof.Rows.All
import Wide.All
import OpenK.AllK
import Wide.FinOn
import HandS.Exc
import HandS.ExcInit
import HandS.ExcIs
import HandS.ExcField
import HandS.TryMany
import KE.KExcInit
import KE.KExcIs
import HandS.Defaults
import HandS.IsInst
import HandS.HeadHook2
import HandS.HeadWalk
import HandS.ForMost
import HandS.Dict
import HandS.DictComp
import HandS.SetBool
import KE.KDictKeyed
import KE.KeyNested
import PyProof.ReprReads
import PyProof.EqLayable
import KE.SortData
import HandS.Text
import HandS.StrMore
import HandS.Deep
import HandS.Flow
import HandS.Zip
import HandS.TupAny
import HandS.TupLe
import HandS.SortInts
import HandS.Wide
import HandS.Conv
import HandS.Style
import HandS.TupMul
import HandS.DictTup
import HandS.SortKw
import HandS.Slots
import HandS.TupLen
import KE.KDictCopyH
import KE.KMinBuiltin
import KE.KDictPairs
import KE.LtSeq
import KE.DatumOrd
import KE.KTupSum
import KE.SortKeyHeap
import HandS.Flt
import HandS.SetFor
import PyProof.EqKinds
import HandS.Iter
import KE.GoesMore
import KE.GoesEnum
import PyProof.EnumIter
import KE.KDictZip
import HandS.NoneIn
import HandS.Strs
import HandS.WideMore
import KE.KDictDisplayH
import HandS.Head0
import HandS.Head1
import HandS.Head2
import HandS.HeadEnd
import HandS.HeadHook1
import PySem.Challenge.RW_towlines_k66_refusals_made
set_option Elab.async false
set_option linter.all false
set_option autoImplicit false
set_option maxRecDepth 100000
namespace Tw
open PySem PySem.Spec PyProof.Rows L2 Builtin.ObjectAttr
structure Bs where
  B : String
  bm : List Value
  nw : String
  ini : String
structure BsOk (b : Bs) : Prop where
  F : PySem.ExcBaseFacts b.B b.nw b.ini b.bm
  S : PySem.StoreFacts b.B b.bm "object.__setattr__" "object"
  ty : typeOf (.type b.B) = pure (.type "type")
  st : Manifest.isStub b.B = false
  bt : bootBuiltins (Str.ofString b.B) = some (.type b.B)
  ne : Str.ofString b.B ≠ "__name__"
  nd : (Str.ofString b.B == ("__debug__" : Str)) = false
  hd : PySem.W.handedIn (.builtin b.ini) = true
  fc : ∀ K : PySem.W.Frag, PySem.W.findCls K (.type b.B) (.type "type") "__init__" = some (.val (.builtin b.ini))
def bVE : Bs := ⟨"ValueError", [.type "ValueError", .type "Exception", .type "BaseException", .type "object"], "ValueError.__new__", "ValueError.__init__"⟩
def bLE : Bs := ⟨"LookupError", [.type "LookupError", .type "Exception", .type "BaseException", .type "object"], "LookupError.__new__", "LookupError.__init__"⟩
def bRE : Bs := ⟨"RuntimeError", [.type "RuntimeError", .type "Exception", .type "BaseException", .type "object"], "RuntimeError.__new__", "RuntimeError.__init__"⟩
def bOE : Bs := ⟨"OverflowError", [.type "OverflowError", .type "ArithmeticError", .type "Exception", .type "BaseException", .type "object"], "OverflowError.__new__", "OverflowError.__init__"⟩
theorem okVE : BsOk bVE := ⟨F.excBase_ValueError, F.store_ValueError, by kernel_rfl, by decide +kernel, by kernel_rfl, by decide, by decide, by decide +kernel, fun K => by kernel_rfl⟩
theorem okLE : BsOk bLE := ⟨F.excBase_LookupError, F.store_LookupError, by kernel_rfl, by decide +kernel, by kernel_rfl, by decide, by decide, by decide +kernel, fun K => by kernel_rfl⟩
theorem okRE : BsOk bRE := ⟨F.excBase_RuntimeError, F.store_RuntimeError, by kernel_rfl, by decide +kernel, by kernel_rfl, by decide, by decide, by decide +kernel, fun K => by kernel_rfl⟩
theorem okOE : BsOk bOE := ⟨F.excBase_OverflowError, F.store_OverflowError, by kernel_rfl, by decide +kernel, by kernel_rfl, by decide, by decide, by decide +kernel, fun K => by kernel_rfl⟩
structure XcK (K : PySem.W.Frag) (b : Bs) (C : Addr) (f : Str) : Prop where
  ok : BsOk b
  sh : PySem.W.excInitIn K C b.bm b.nw = true
  ov : PySem.W.excOver K C b.bm = true
  dc : PySem.W.hasDictIn K C = true
  sa : PySem.W.findIn K (.ref C) "__setattr__" = some (some (.builtin "object.__setattr__"))
  no : PySem.W.findIn K (.ref C) f = some none
theorem XcK.tk {K : PySem.W.Frag} {b : Bs} {C : Addr} {f : Str} (T : XcK K b C f) : PySem.W.takerIn K C f = some none := by
  unfold PySem.W.takerIn
  rw [T.no]
  rfl
section
variable {X : Cx} {pins : List (Addr × Obj)} {σ : L2.St} {H : Hp} {s : Shared} {a C dx : Addr} {f : Str} {y : V} {u : Value} {b : Bs} {Q : Unit → Shared → Prop} {E : Value → Shared → Prop} {A : Around}
theorem fld_raw {hp : Heap} {g : Array GenState} {d : Drawn} {t : Nat} {os : OsState} {fv : Array Value} {tk : Tok} {R : Result → Shared → Prop} (T : XcK X.K b C f) (kin : X.K.In hp) (hx : hp.get? a = some { cls := .ref C, data := .fields fv })
    (hq : ∀ h' tk' dx, (∀ c o, c ≠ a → hp.get? c = some o → h'.get? c = some o) → hp.objs.size ≤ dx → dx ≠ a → h'.get? a = some { cls := .ref C, dict := some dx, data := .fields fv } → h'.Ns1 dx (fun z => if z = f then some u else none) → R (.ok (.ret .none)) ⟨h', g, d, tk', os⟩) :
    codeAny (model X.prog X.w) A (.call (.builtin "object.__setattr__") ⟨[.ref a, .str f tk, u], []⟩) R ⟨hp, g, d, t, os⟩ := by
  refine PySem.W.osa_openX (od := none) T.ok.S kin ⟨hx, rfl, rfl, trivial⟩ T.ov T.tk fun bb => ?_
  obtain ⟨cd, hc, hd'⟩ := PySem.W.any_some T.dc
  have ne1 : a ≠ hp.objs.size := Nat.ne_of_lt (Heap.lt_size hx)
  have LC := PySem.W.looks_clsIn (M := model X.prog X.w) kin hc
  obtain ⟨nm, bs, mro, ns, qn, hd, sn, sb, ab, col, del⟩ := cd
  dsimp only at hd'
  subst hd'
  show wpAny _ _ (storeInOwnDict (.ref a) (.ref C) (.str f tk) f u bb) _ _ _
  unfold storeInOwnDict ownDictForStores
  repeat (first
    | with_reducible refine PySem.HandSPX.store_in_new ?_ ?_
    | with_reducible refine wpAny_loadPart_at hx ?_
    | with_reducible refine LC.at ?_
    | wp_step)
  · refine ⟨_, #[], _, (Heap.get?_update_ne _ _ _ _ ne1.symm).trans (Heap.get?_push_at rfl rfl), rfl, ?_, fun _ => rfl⟩
    intro e he
    exact absurd he (by simp)
  · intro h' tk' hn' hs
    have e1 : (hp.push { cls := .type "dict", data := .dict #[] }).get? a = some { cls := .ref C, data := .fields fv } := Heap.get?_push_of_some _ hx
    refine hq h' tk' hp.objs.size ?_ (Nat.le_refl _) ne1.symm ?_ hn'
    · intro c o hc2 ho
      refine (hs.2 c (Nat.ne_of_lt (Heap.lt_size ho))).trans ?_
      exact (Heap.get?_update_ne _ _ _ _ hc2).trans (Heap.get?_push_of_some _ ho)
    · exact (hs.2 a ne1).trans (Heap.get?_update_self _ e1 rfl)
theorem fld_new (T : XcK X.K b C f) (I : Inv X pins σ H s) (e : H a = some (exo a C none)) (ry : RelV y u)
    (h : ∀ dx s', H dx = none → dx ≠ a → Inv X pins σ (upd (upd H dx (exd dx [(f, y)])) a (exo a C (some dx))) s' → Q () s') : wpAny (model X.prog X.w) A (setAttr (.ref a) f u) Q E s := by
  obtain ⟨t1, ho⟩ := exo_at I.hok e
  obtain ⟨hp, g, d, t, os⟩ := s
  refine PySem.W.set_plain I.kIn (od := none) (ox := { cls := .ref C, dict := none, data := .fields #[.ref t1, .none, .none, .none, .bool false, .none] }) ⟨ho, rfl, rfl, trivial⟩ T.sa ?_
  refine fld_raw T I.kIn ho fun h' tk' dx k big ne hx hn => ?_
  have free : H dx = none := I.hok.fresh big
  have old : ∀ {c : Addr} {o : Obj}, hp.get? c = some o → c ≠ dx := fun {c o} q => Nat.ne_of_lt (Nat.lt_of_lt_of_le (Heap.lt_size q) big)
  have notA : ∀ {c : Addr}, H c = none → c ≠ a := fun {c} n z => by rw [z, e] at n; cases n
  have U : Un X.fs [] H (upd (upd H dx (exd dx [(f, y)])) a (exo a C (some dx))) hp h' := by
    constructor
    · intro c o q n _ _; exact k c o (notA n) q
    · intro c o q n _ _; exact ⟨o.slots, k c o (notA n) q⟩
    · intro c o q n _; rw [upd_ne (notA n), upd_ne (old q)]; exact n
    · intro c o q _
      by_cases hc : c = a
      · subst hc; exact ⟨_, hx⟩
      · exact ⟨o, k c o hc q⟩
    · intro c xs q; rw [upd_ne (at_ne e q exo_tup), upd_ne (ne_of_none q free)]; exact q
    · intro c o v q; rw [upd_ne (at_ne e q exo_frz), upd_ne (ne_of_none q free)]; exact q
    · intro c ps q; exact ⟨#[], by rw [upd_ne (at_ne e q exo_tbl), upd_ne (ne_of_none q free), q]; simp⟩
  refine h dx _ free ne (I.un (t' := tk') U ?_)
  intro c o q
  by_cases hc : c = a
  · subst hc
    rw [upd_same] at q
    cases q
    exact exo_ok hx
  rw [upd_ne hc] at q
  by_cases hd : c = dx
  · subst hd
    rw [upd_same] at q
    cases q
    exact exd_ok hn (relO_put (fs := []) ry fun _ => True.intro)
  rw [upd_ne hd] at q
  refine (I.hok c o q).stay (fun c2 v hc2 z => k c2 v ?_ z) (fun c2 q2 => ?_) fun c2 xs q2 => ?_
  · rcases hc2 with z2 | z2
    · rw [z2]; exact hc
    · exact at_ne e z2 exo_own
  · rw [upd_ne (at_ne e q2 exo_own), upd_ne (ne_of_none q2 free)]; exact q2
  · rw [upd_ne (at_ne e q2 exo_tup), upd_ne (ne_of_none q2 free)]; exact q2
theorem ini_ok {us : List Value} {Q : Value → Shared → Prop} (T : XcK X.K b C f) (I : Inv X pins σ H s) (e : H a = some (exo a C none)) (hl : us.length ≤ sizeLine) (h : ∀ s', Inv X pins σ H s' → Q .none s') :
    wpAny (model X.prog X.w) A (call (.builtin b.ini) (.ref a :: us)) Q E s := by
  obtain ⟨t1, ho⟩ := exo_at I.hok e
  obtain ⟨hp, g, d, t, os⟩ := s
  obtain ⟨nm, N, q, bs, bm, hdct, sn, sub, ab, col, dd, k0, k1, k2, k3, k5, hC, hT⟩ := PySem.W.excInit_of I.kIn T.sh
  refine wpAny_call (PySem.HandSPX.init_base T.ok.F hT hC ho hl fun h' t2 k hx => ?_)
  have J := I.write (t' := t) (x := a) (e := a) (o := exo a C none) (by rw [e]; exact True.intro) (.inl rfl) k ⟨_, hx⟩ (exo_ok hx)
  have same : upd H a (exo a C none) = H := funext fun c => by
    by_cases hc : c = a
    · rw [hc, upd_same, e]
    · rw [upd_ne hc]
  exact h _ (same ▸ J)
end
def tIni (K : PySem.W.Frag) (b : Bs) (ta : TA) : TE := fun σ H Q => ta σ H fun vs H1 => ∃ (a C : Addr) (f : Str) (ws : List V), vs = .ref a :: ws ∧ ws.length ≤ 1000 ∧ XcK K b C f ∧ H1 a = some (exo a C none) ∧ Q .non H1
def tFld (K : PySem.W.Frag) (b : Bs) (f : Str) (to te : TE) : TS := fun D σ H => te σ H fun y H1 => to σ H1 fun x H2 => ∃ a C : Addr, x = .ref a ∧ XcK K b C f ∧ H2 a = some (exo a C none) ∧
  ∀ dx, H2 dx = none → dx ≠ a → D.nx σ (upd (upd H2 dx (exd dx [(f, y)])) a (exo a C (some dx)))
section
variable {X : Cx} {o e : Expr} {es : List Expr} {to te : TE} {ta : TA} {f B : Str} {p p' p1 p2 pos : Pos} {b : Bs}
theorem pe_ini {pl : Sem Bool} (ok : BsOk b) (hB : B = Str.ofString b.B) (hg : Gl X B) (hm : X.mg B = none) (ha : PA X (e :: es) ta)
    (hc : eval (.Call (.Attribute (.Name B p1) "__init__" p2) (e :: es) [] pos) X.env = (do
      let ov ← eval (.Name B p1) X.env
      standAt p2.atName
      let (f, first) ← holding [ov] (getMethod ov "__init__" pl)
      callWith pos f first (backTo pos (starEach (e :: es) X.env)) (backToKw pos (keywordEach [] X.env))) := by rfl)
    (he : starEach (e :: es) X.env = (false, eval e X.env) :: starEach es X.env := by rfl) (hpl : (backTo pos (starEach es X.env)).any (·.1) = false := by rfl) :
    PE X (.Call (.Attribute (.Name B p1) "__init__" p2) (e :: es) [] pos) (tIni X.K b ta) := by
  subst hB
  refine ⟨fun pins s σ H Q I h => ?_⟩
  refine PySem.W.methodCall_KW (ld_blt I hg hm ok.bt ?_ ok.ne ok.nd) hc
  obtain ⟨m, fr⟩ := I.fr
  refine PySem.W.method_type fr I.ok.mod.kin ok.ty ok.st (ok.fc _) ok.hd ?_
  show wpAny _ _ (callWith pos (Value.builtin b.ini) [] (backTo pos (starEach (e :: es) X.env)) []) _ _ _
  refine PyProof.Rows.callWith_method1 (thn (ha.run pos pins _ σ H _ (I.tok _) h) fun us s1 hh => ?_) he hpl
  obtain ⟨vs, H1, I1, r1, a, C, f, ws, ev, hl, T, ea, q⟩ := hh
  subst ev
  cases r1 with
  | @cons _ u0 _ ur ra rw' =>
    cases (show u0 = Value.ref a from ra)
    refine ini_ok T I1 ea ?_ fun s' J => ⟨.non, H1, J, rfl, q⟩
    rw [← Paired.length rw', sizeLine_eq]
    omega
theorem ps_fld (ho : PE X o to) (he : PE X e te) (hs : swapsWith e (some (.Attribute o f p')) pos.line X.env = pure false := by rfl) : PS X (.Assign [.Attribute o f p'] e pos) (tFld X.K b f to te) := by
  refine ⟨fun pins s σ H D I h => ?_⟩
  refine plainObj_wpAny_Assign_Attribute (thn (he.run pins s σ H _ I h) fun v s1 hh => ?_) hs
  obtain ⟨y, H1, I1, r1, q1⟩ := hh
  refine thn (ho.run pins s1 σ H1 _ I1 q1) fun u s2 hh => ?_
  obtain ⟨x, H2, I2, r2, a, C, ex, T, ea, q⟩ := hh
  subst ex
  cases (show u = Value.ref a from r2)
  exact fld_new T I2 ea r1 fun dx s' n ne J => ⟨σ, _, J, q dx n ne⟩
end
section
open PySem.W
theorem lk_each {M : Model} {h : Heap} {f : Value → PUnit → Sem (ForInStep PUnit)} : ∀ {l : List Value}, (∀ c ∈ l, Looks M h (f c ⟨⟩) (.yield ⟨⟩)) → Looks M h (forIn l PUnit.unit f) ⟨⟩
  | [], _ => by
    rw [List.forIn_nil]
    exact .now
  | c :: l, hf => by
    rw [List.forIn_cons]
    exact (hf c List.mem_cons_self).andThen (lk_each fun d hd => hf d (List.mem_cons_of_mem _ hd))
theorem lk_any {M : Model} {K : Frag} {h : Heap} {cls : Value} (X : K.In h) {f : Value → Option Bool × Unit → Sem (ForInStep (Option Bool × Unit))}
    (hf : ∀ c v, exmOne K cls c = some v → Looks M h (f c (none, ())) (if v then .done (some true, ()) else .yield (none, ()))) : ∀ {l : List Value} {b : Bool}, exmAny K cls l = some b → Looks M h (forIn l (none, ()) f) (if b then some true else none, ())
  | [], b, e => by
    cases e
    rw [List.forIn_nil]
    exact .now
  | c :: l, b, e => by
    obtain ⟨b1, d1, x1, y1, rfl⟩ := exmAny_cons e
    rw [List.forIn_cons]
    have q1 := hf c b1 x1
    cases b1 with
    | true => exact q1.andThen .now
    | false =>
      have q2 := lk_any X hf y1
      rw [Bool.false_or]
      exact q1.andThen q2
theorem exm_mem {K : Frag} {cls : Value} : ∀ {l : List Value} {b : Bool}, exmAny K cls l = some b → ∀ c ∈ l, ∃ v, exmOne K cls c = some v
  | [], _, _, _, hc => nomatch hc
  | d :: l, b, e, c, hc => by
    obtain ⟨b1, d1, x1, y1, rfl⟩ := exmAny_cons e
    rcases List.mem_cons.mp hc with rfl | hc
    · exact ⟨_, x1⟩
    · exact exm_mem y1 c hc
theorem exm_all {M : Model} {K : Frag} {h : Heap} {e tp : Addr} {cls : Value} {cs : List Value} {b : Bool} (X : K.In h) (LT : Looks M h (typeOf (.ref e)) cls) (hp : h.get? tp = some { cls := .type "tuple", data := .seq cs.toArray })
    (hx : exmAny K cls cs = some b) : Looks M h (excMatches (.ref e) (.ref tp)) b := by
  intro A Q E s k₀ q
  have LT0 : Looks M h (isInstance (.ref tp) (.type "tuple")) true := ((Looks.ld hp).andThen .now).andThen (Looks.of_pure isSubtype_tuple_tuple)
  have LT0 := LT0.keeps k₀
  have LT := LT.keeps k₀
  have hp' := k₀ _ _ hp
  unfold excMatches
  refine wpAny_bind (LT0.here ?_)
  dsimp only
  rw [if_pos rfl]
  first
    | refine wpAny_bind (wpAny_seqItems hp' rfl ?_)
    | refine wpAny_bind (wpAny_bind (wpAny_seqItems hp' rfl (wpAny_pure ?_)))
  dsimp only [Option.getD_some, Option.getD]
  refine wpAny_bind (wpAny_pure ?_)
  have X' : K.In s.heap := X.keeps k₀
  refine wpAny_bind ((lk_each (h := s.heap) fun c hc => ?_).here ?_)
  · obtain ⟨v, hv⟩ := exm_mem hx c hc
    exact (exm_cls X' hv).1.andThen .now
  refine wpAny_bind (LT.here ?_)
  refine wpAny_bind ((lk_any (h := s.heap) X' (fun c v hv => (exm_cls X' hv).2.andThen ?_) hx).here ?_)
  · cases v <;> exact .now
  · cases b <;> exact wpAny_pure q
end
def XO (a C d : Addr) : HO := .ext fun h => ∃ o vs, h.get? a = some o ∧ o.cls = .ref C ∧ o.dict = some d ∧ o.data = .fields vs
theorem XO_ok {P : Program} {w : World} {H : Hp} {h : Heap} {a C d : Addr} {o : Obj} {vs : Array Value} (e : h.get? a = some o) (e1 : o.cls = .ref C) (e2 : o.dict = some d) (e3 : o.data = .fields vs) : ObjOk P w H h a (XO a C d) :=
  ⟨⟨o, vs, e, e1, e2, e3⟩, ⟨o, e⟩, fun _ _ ⟨o', v', q, r⟩ k => ⟨o', v', k _ q, r⟩⟩
section
variable {X : Cx} {pins : List (Addr × Obj)} {σ : L2.St} {H : Hp} {s : Shared}
theorem Inv.track {a C d : Addr} {oe : Obj} (I : Inv X ((a, oe) :: pins) σ H s) (hz : Zc (.ref C) (some d) oe) (hf : ∃ vs, oe.data = .fields vs) (fresh : ∀ o, X.s_0.heap.get? a = some o → X.H_0 a ≠ none) (other : ∀ p ∈ X.pn ++ pins, p.1 ≠ a) :
    Inv X pins σ (upd H a (XO a C d)) s := by
  obtain ⟨ha, na, nL, nF, nC⟩ := I.pin (a, oe) (List.mem_append_right _ List.mem_cons_self)
  have ha : s.heap.get? a = some oe := ha
  have na : H a = none := na
  obtain ⟨vs, hv⟩ := hf
  have neT : ∀ {c : Addr} {u : HO}, H c = some u → c ≠ a := fun {c u} e z => by rw [z, na] at e; cases e
  refine ⟨I.ok, I.os, I.bare, ⟨I.base.keep, I.base.slot, fun c o e n hq => ?_, I.base.there, fun c xs e => ?_, fun c o u e => ?_, fun c ps e => ?_⟩, I.loc, I.cell, ?_, fun x c e => ?_, fun p hp => ?_, fun c u e => ?_, I.len⟩
  · rw [upd_ne (fun z : c = a => by subst z; exact fresh o e n)]
    exact I.base.free c o e n hq
  · have q := I.base.tups c xs e
    rw [upd_ne (neT q)]
    exact q
  · have q := I.base.frzs c o u e
    rw [upd_ne (neT q)]
    exact q
  · obtain ⟨more, q⟩ := I.base.tbls c ps e
    exact ⟨more, by rw [upd_ne (neT q)]; exact q⟩
  · rw [upd_ne (Ne.symm nL)]
    exact I.free
  · have ne : c ≠ a := fun z => by
      obtain ⟨v, o, ho, hd⟩ := I.cell x c e
      rw [z, ha] at ho
      cases ho
      exact nC v hd
    rw [upd_ne ne]
    exact I.freeC x c e
  · have hp2 : p ∈ X.pn ++ (a, oe) :: pins := by
      rcases List.mem_append.mp hp with q | q
      · exact List.mem_append_left _ q
      · exact List.mem_append_right _ (List.mem_cons_of_mem _ q)
    obtain ⟨e1, e2, e3⟩ := I.pin p hp2
    exact ⟨e1, by rw [upd_ne (other p hp)]; exact e2, e3⟩
  · by_cases hc : c = a
    · subst hc
      rw [upd_same] at e
      cases e
      exact XO_ok ha hz.1 hz.2 hv
    · rw [upd_ne hc] at e
      refine (I.hok c u e).stay (fun _ _ _ q => q) (fun c2 q => ?_) fun c2 xs q => ?_
      · rw [upd_ne (neT q)]; exact q
      · rw [upd_ne (neT q)]; exact q
theorem fly_keep {B h h' : Heap} {l : List Env} {a : Addr} {Z : Obj → Prop} (x : HandSPX.FlyingZ B l a Z h) (k : ∀ b o, h.get? b = some o → h'.get? b = some o) : HandSPX.FlyingZ B l a Z h' := by
  obtain ⟨x1, x2, x3, oe, vs, T, oT, ts, he, hz, hd, h1, hnT, hTe, hT, hdT, h3⟩ := x
  exact ⟨fun b o e => k b o (x1 b o e), x2, Heap.FunFrames.of_keeps (fun b o e _ => ⟨o, k b o e, rfl⟩) x3, oe, vs, T, oT, ts, k _ _ he, hz, hd, h1, hnT, hTe, k _ _ hT, hdT, h3⟩
inductive NamesAll (X : Cx) : List Expr → List Value → Prop
  | nil : NamesAll X [] []
  | cons {x : Str} {p : Pos} {c : Value} {es : List Expr} {cs : List Value} (hc : Names X x c) (r : NamesAll X es cs) : NamesAll X (.Name x p :: es) (c :: cs)
theorem NamesAll.length {X : Cx} {es : List Expr} {cs : List Value} (n : NamesAll X es cs) : es.length = cs.length := by
  induction n with
  | nil => rfl
  | cons _ _ ih => rw [List.length_cons, List.length_cons, ih]
theorem nm_read {a : Addr} {pn : List (Addr × Obj)} {x : Str} {p : Pos} {c : Value} {Q E : Value → Shared → Prop} (S : Inv (X.suite a pn) [] σ H s) (hc : Names X x c) (q : Q c s) : wpAny (model X.prog X.w) (X.A.mark (some (.ref a))) (eval (.Name x p) X.env) Q E s := by
  obtain ⟨hg, hd, hm | ⟨hm, hv, hn⟩⟩ := hc
  · exact ld_glob (X := X.suite a pn) S hg hm q hd
  · exact ld_blt (X := X.suite a pn) S hg hm hv q hn hd
theorem nms_read {a : Addr} {pn : List (Addr × Obj)} {pos : Pos} {E : Value → Shared → Prop} (S : Inv (X.suite a pn) [] σ H s) {es : List Expr} {cs : List Value} (n : NamesAll X es cs) :
    ∀ {Q : List Value → Shared → Prop}, Q cs s → wpAny (model X.prog X.w) (X.A.mark (some (.ref a))) (spliced (backTo pos (starEach es X.env))) Q E s := by
  induction n with
  | nil => intro Q q; exact Calls.spliced_nil q
  | cons hc r ih =>
    intro Q q
    exact Calls.spliced_cons (nm_read S hc (ih q))
def TestIs (X : Cx) (t : Expr) (cs : List Value) : Prop := (∃ x p c, t = .Name x p ∧ cs = [c] ∧ Names X x c) ∨ ∃ es k p, t = .Tuple es k p ∧ NamesAll X es cs ∧ cs.length ≤ 100
theorem test_ok {a : Addr} {pn : List (Addr × Obj)} {t : Expr} {cs : List Value} {cls : Value} {b : Bool} {Q : Bool → Shared → Prop} {E E2 : Value → Shared → Prop} (S : Inv (X.suite a pn) [] σ H s) (ht : TestIs X t cs)
    (LT : PySem.W.Looks (model X.prog X.w) s.heap (typeOf (.ref a)) cls) (hx : PySem.W.exmAny X.K cls cs = some b) (h : ∀ h', (∀ c o, s.heap.get? c = some o → h'.get? c = some o) → Q b { s with heap := h' }) :
    wpAny (model X.prog X.w) (X.A.mark (some (.ref a))) (eval t X.env) (fun c s₁ => wpAny (model X.prog X.w) (X.A.mark (some (.ref a))) (excMatches (.ref a) c) Q E2 s₁) E s := by
  rcases ht with ⟨x, p, c, rfl, rfl, hc⟩ | ⟨es, k, p, rfl, hn, hl⟩
  · refine nm_read S hc ?_
    obtain ⟨b1, d1, x1, y1, rfl⟩ := PySem.W.exmAny_cons hx
    cases (show some false = some d1 from y1)
    refine (PySem.W.exm_one (M := model X.prog X.w) S.kIn LT x1).here ?_
    have q := h s.heap fun _ _ e => e
    rw [Bool.or_false] at q
    exact q
  · refine wpAny_Tuple_spliced (nms_read S hn ⟨?_, ?_⟩)
    · have := sizeLine_eq
      omega
    · have kp : ∀ c o, s.heap.get? c = some o → (s.heap.push { cls := .type "tuple", data := .seq cs.toArray }).get? c = some o := fun c o e => Heap.get?_push_of_some _ e
      refine (exm_all (M := model X.prog X.w) (h := s.heap.push { cls := .type "tuple", data := .seq cs.toArray }) (S.kIn.keeps kp) (LT.keeps kp) (Heap.get?_push_size _ rfl) hx).here ?_
      exact h _ kp
end
def wKeep (K : PySem.W.Frag) (cs : List Value) (i j : Nat) (Wout : WX) (D : Ends) : WX := fun cls d σ H => ∃ b, PySem.W.exmAny K cls cs = some b ∧
  (b = true → ∃ C dd, cls = .ref C ∧ d = some dd ∧ ∀ a, H a = none → D.nx (((σ.set i (some (.ref a))).set j (some (.ref a))).set i none) (upd H a (XO a C dd))) ∧ (b = false → Wout cls d σ H)
section
variable {X : Cx} {g n : Str} {cs : List Value} {i j : Nat} {body : List Stmt} {t : Expr} {p1 p2 p3 pos pos' : Pos} {tb : WX → TS} {Wout : WX}
theorem ps_keep (hs : X.stack = X.env :: X.outer) (hf : X.env.frame = some X.env.locals) (hex : X.ex = []) (hN : X.N.Nodup) (hi : X.N[i]? = some n) (hj : X.N[j]? = some g) (hln : X.env.kindOf n = some .local) (hlg : X.env.kindOf g = some .local)
    (dn : (n == ("__debug__" : Str)) = false) (cn : (n == ("__classdict__" : Str)) = false) (hij : i ≠ j) (ht : TestIs X t cs) (tk : Takes X Wout)
    (hb : ∀ (W : WX) (pn : List (Addr × Obj)) (xe : Value → Shared → Prop), Takes (X.tr pn xe) W → PassesOwn (model X.prog X.w) X.A X.env xe → PSs (X.tr pn xe) body (tb W)) :
    PS X (.Try body [.ExceptHandler (some t) (some n) [.Assign [.Name g p1] (.Name n p2) p3] pos'] [] [] pos) (fun D σ H => tb (wKeep X.K cs i j Wout D) D σ H) := by
  refine ⟨fun pins s σ H D I h => ?_⟩
  have ok := I.ok
  have hfr : X.A.frames = some (X.env :: X.outer) := by rw [ok.frames, hs]
  have frsS : ∀ b ∈ frs X.stack, b = X.env.locals ∨ b ∈ X.fs := fun b hb => List.mem_cons.mp (I.stkSub b hb)
  refine wpAny_Try_except ?_
  refine wpAny_mono ((hb (wKeep X.K cs i j Wout D) (X.pn ++ pins)
    (fun e s₁ => wpAny (model X.prog X.w) X.A (noteFrame e X.env)
      (fun _ s₂ => wpAny (model X.prog X.w) X.A (setFlight e none)
        (fun _ s₃ => wpAny (model X.prog X.w) X.A (handleBy e X.env [.ExceptHandler (some t) (some n) [.Assign [.Name g p1] (.Name n p2) p3] pos']) (SP X pins D) X.xe s₃) X.xe s₂) X.xe s₁)
    (fun u s' xx => ?_) PassesOwn.looking).run [] s σ H D (I.toTry _) h) (fun f s1 hsp => ?_) (fun e s1 he => he)
  · obtain ⟨a, B, sI, pins', σ', H', cls, d, rfl, J', nb, up, sky, na, os, ag, b, hb1, hyes, hno⟩ := xx
    have J : Inv X pins σ' H' sI := J'.ofTry ok
    have sky2 : Sky B (X.env :: X.outer) a (Zc cls d) X.env.locals s'.heap := hs ▸ sky
    show wpAny (model X.prog X.w) X.A (noteFrame (.ref a) X.env) _ _ _
    refine Sky.land Zc.steady hfr hf sky2 fun h3 fl3 up3 => ?_
    have J3 : Inv X pins σ' H' { s' with heap := h3 } := J.landed nb fl3.1 (up.trans up3) os ag
    obtain ⟨oe3, vs3, he3, hz3, hd3⟩ := fl3.there
    have notFr : ∀ {h : Heap} {o : Obj} {vs : Array Value}, h.FunFrames B (X.env :: X.outer) → h.get? a = some o → o.data = .fields vs → a ∉ frs (X.env :: X.outer) := fun {h o vs} ff e dd hm => by
      obtain ⟨_, o', e', hnf⟩ := ff.mem hm
      rw [e] at e'
      cases e'
      exact hnf _ dd
    have nfr := notFr fl3.2.2.1 he3 hd3
    have nL : a ≠ X.env.locals := fun z => nfr (List.mem_filterMap.mpr ⟨X.env, List.mem_cons_self, by rw [hf, z]⟩)
    have nF : a ∉ X.fs := fun hm => by
      obtain ⟨e, he, q⟩ := List.mem_filterMap.mp hm
      exact nfr (List.mem_filterMap.mpr ⟨e, List.mem_cons_of_mem _ he, q⟩)
    have nB : B.get? a = none := fl3.2.1
    have notI : ∀ o, sI.heap.get? a = some o → False := fun o e => by
      have q := nb a o e (by rw [hs]; exact nfr)
      rw [nB] at q
      cases q
    have fresh : ∀ o, X.s_0.heap.get? a = some o → X.H_0 a ≠ none := fun o e q => notI _ (J.base.keep a o e q nF (by rw [hex]; exact List.not_mem_nil))
    have other : ∀ p ∈ X.pn ++ pins, p.1 ≠ a := fun p hp z => notI p.2 (by rw [← z]; exact (J.pin p hp).1)
    have S3 := J3.suite he3 hd3 na nL nF
    refine wpAny_handleBy_cons (codeAny_handlers_test ?_) (by intro q; cases q)
    have LT : PySem.W.Looks (model X.prog X.w) h3 (typeOf (.ref a)) cls := fun A Q E s k q => wpAny_typeOf_ref (k _ _ he3) (by rw [hz3.1]; exact q)
    refine test_ok S3 ht LT hb1 fun h5 k5 => ?_
    have fl5 := fly_keep fl3 k5
    have up5 : Heap.UpToSlots sI.heap h5 := (up.trans up3).trans (Heap.UpToSlots.of_keeps k5)
    cases b with
    | true =>
      refine codeAny_handlers_suite_as ?_
      refine HandSPX.lands_againZ fl5 fun h4 fl4 up4 => ?_
      have J4 : Inv X pins σ' H' { s' with heap := h4 } := J.landed nb fl4.1 (up5.trans up4) os ag
      obtain ⟨oe4, vs4, he4, hz4, hd4⟩ := fl4.there
      have S4 := J4.suite he4 hd4 na nL nF
      refine store_ok (X := X.suite a ((a, oe4) :: (X.pn ++ pins))) (v := .ref a) S4 hN hi (.inl hln) rfl (fun s5 S5 => ?_) (.inr hln)
      obtain ⟨C, dd, rfl, rfl, go⟩ := hyes rfl
      have pe : PE (X.suite a ((a, oe4) :: (X.pn ++ pins))) (.Name n p2) (tVar i) := pe_var hi (.inl hln) dn cn
      have li : i < σ'.length := by rw [J.len]; exact (List.getElem?_eq_some_iff.mp hi).1
      have q0 : tAsg (tVar i) (gName j) { nx := fun σ6 H6 => σ6 = (σ'.set i (some (.ref a))).set j (some (.ref a)) ∧ H6 = H', rt := fun _ _ => False } (σ'.set i (some (.ref a))) H' :=
        ⟨.ref a, List.getElem?_set_self li, rfl, rfl⟩
      refine wpAny_mono ((pss_one (ps_asg (X := X.suite a ((a, oe4) :: (X.pn ++ pins))) pe (pg_name hN hj (.inl hlg) (.inr hlg)))).run [] s5 _ H' _ S5 q0) (fun f s6 hsp => ?_) fun _ _ z => False.elim z
      cases f with
      | next =>
        obtain ⟨σ6, H6, S6, e6, e7⟩ := hsp
        subst e6 e7
        have J6 : Inv X ((a, oe4) :: pins) ((σ'.set i (some (.ref a))).set j (some (.ref a))) H6 s6 := by
          refine ⟨ok, S6.os, S6.bare, S6.base, S6.loc, S6.cell, S6.free, S6.freeC, fun p hp => S6.pin p ?_, S6.hok, S6.len⟩
          rw [List.append_nil]
          rcases List.mem_append.mp hp with q | q
          · exact List.mem_cons_of_mem _ (List.mem_append_left _ q)
          · rcases List.mem_cons.mp q with rfl | q
            · exact List.mem_cons_self
            · exact List.mem_cons_of_mem _ (List.mem_append_right _ q)
        refine gone_ok J6 hN hi hln fun s7 J7 => ?_
        exact ⟨_, _, Inv.track J7 hz4 ⟨_, hd4⟩ fresh other, go a na⟩
      | brk =>
        obtain ⟨_, _, _, z⟩ := hsp
        exact z.elim
      | cont =>
        obtain ⟨_, _, _, z⟩ := hsp
        exact z.elim
      | ret u =>
        obtain ⟨_, _, _, _, _, z⟩ := hsp
        exact z.elim
    | false =>
      show wpAny _ X.A (handleBy (.ref a) X.env []) _ _ _
      refine wpAny_handleBy_nil ?_
      obtain ⟨k1, k2, k3, oe, vs, T, oT, ts', he, hz, hd, h1, hr⟩ := id fl5
      unfold PySem.passOn
      refine wpAny_bind (wpAny_field he hd h1 ?_)
      rw [if_neg (show ¬ ((Value.ref T == Value.none) = true) from by simp)]
      have fin : wpAny (model X.prog X.w) X.A (setFlight (.ref a) X.env.frame) (fun _ s4 => wpAny (model X.prog X.w) X.A (throw (.ref a) : Sem Flow) (SP X pins D) X.xe s4) X.xe { s' with heap := h5 } := by
        rw [hf]
        refine HandSPX.setFlight_upZ fl5 fun h4 hh4 up4 => wpAny_throw (tk _ _ ?_)
        exact ⟨a, B, sI, pins, σ', H', cls, d, rfl, J, nb, up5.trans up4, .inr (.inr (by rw [hs]; exact hh4)), na, os, ag, hno rfl⟩
      first
        | exact wpAny_bind (wpAny_pure (wpAny_bind fin))
        | exact wpAny_bind fin
  · have back : ∀ {σ1 : L2.St} {H1 : Hp} {xe : Value → Shared → Prop}, Inv (X.tr (X.pn ++ pins) xe) [] σ1 H1 s1 → Inv X pins σ1 H1 s1 := fun z => z.ofTry ok
    cases f with
    | next =>
      obtain ⟨σ1, H1, J1, q⟩ := hsp
      exact wpAny_execs_nil ⟨σ1, H1, back J1, q⟩
    | brk =>
      obtain ⟨σ1, H1, J1, q⟩ := hsp
      exact ⟨σ1, H1, back J1, q⟩
    | cont =>
      obtain ⟨σ1, H1, J1, q⟩ := hsp
      exact ⟨σ1, H1, back J1, q⟩
    | ret u =>
      obtain ⟨v, σ1, H1, J1, r, q⟩ := hsp
      exact ⟨v, σ1, H1, back J1, r, q⟩
end
def xTab : List (String × String × Bs) := [("BadText", "text", bVE), ("BadRow", "number", bVE), ("Slips", "line", bVE), ("NotThere", "row", bVE), ("NoBoat", "boat", bLE), ("NoLine", "pair", bLE), ("NoCrew", "number", bLE), ("NoRow", "number", bLE),
  ("NoDeed", "many", bLE), ("Behind", "boat", bRE), ("NotEnough", "boat", bRE), ("TooMany", "many", bOE)]
def xRow (c : String) : List (String × String × Bs) → String × Bs
  | [] => ("", bVE)
  | p :: ps => if c = p.1 then p.2 else xRow c ps
def xB (c : String) : Bs := (xRow c xTab).2
def xF (c : String) : Str := Str.ofString (xRow c xTab).1
theorem xRow_ok (c : String) : ∀ l : List (String × String × Bs), (∀ p ∈ l, BsOk p.2.2) → BsOk (xRow c l).2
  | [], _ => okVE
  | p :: ps, h => by
    unfold xRow
    split
    · exact h p List.mem_cons_self
    · exact xRow_ok c ps fun q hq => h q (List.mem_cons_of_mem _ hq)
theorem xB_ok (c : String) : BsOk (xB c) := xRow_ok c xTab fun p hp => by
  simp only [xTab, List.mem_cons, List.not_mem_nil, or_false] at hp
  rcases hp with rfl | rfl | rfl | rfl | rfl | rfl | rfl | rfl | rfl | rfl | rfl | rfl <;> first | exact okVE | exact okLE | exact okRE | exact okOE
abbrev xA (K : PySem.W.Frag) (c : String) : Addr := He.ga K (Str.ofString c)
def xcB (K : PySem.W.Frag) (c : String) : Bool :=
  (xTab.map (·.1)).contains c && PySem.W.excInitIn K (xA K c) (xB c).bm (xB c).nw && (PySem.W.excOver K (xA K c) (xB c).bm && (PySem.W.hasDictIn K (xA K c) &&
  (decide (PySem.W.findIn K (.ref (xA K c)) "__setattr__" = some (some (.builtin "object.__setattr__"))) && (decide (PySem.W.findIn K (.ref (xA K c)) (xF c) = some none) &&
  (decide (PySem.W.findIn K (.ref (xA K c)) "__getattribute__" = some (some (.builtin "BaseException.__getattribute__"))) && (decide (PySem.W.findIn K (.ref (xA K c)) "__getattr__" = some none) &&
  (decide (PySem.W.findIn K (.ref (xA K c)) "__class__" = some (some (.builtin "object.__class__"))) && (decide (PySem.W.typeIn K (.ref (xA K c)) = some (.type "type")) && (PySem.W.keepIn K (.ref (xA K c)) &&
  (decide (PySem.W.specialIn K (.builtin "object.__class__") "__get__" = some (some (.builtin "getset_descriptor.__get__"))) && (decide (PySem.W.takesIn K (.builtin "object.__class__") = some true) &&
  (match PySem.W.clsIn K (xA K c) with
    | some cd => decide (cd.name = Str.ofString c) && decide (cd.mro = .ref (xA K c) :: (xB c).bm)
    | none => false))))))))))))
structure XcG (K : PySem.W.Frag) (c : String) : Prop where
  k : XcK K (xB c) (xA K c) (xF c)
  ga : PySem.W.findIn K (.ref (xA K c)) "__getattribute__" = some (some (.builtin "BaseException.__getattribute__"))
  gt : PySem.W.findIn K (.ref (xA K c)) "__getattr__" = some none
  cl : PySem.W.findIn K (.ref (xA K c)) "__class__" = some (some (.builtin "object.__class__"))
  ty : PySem.W.typeIn K (.ref (xA K c)) = some (.type "type")
  kp : PySem.W.keepIn K (.ref (xA K c)) = true
  gs : PySem.W.specialIn K (.builtin "object.__class__") "__get__" = some (some (.builtin "getset_descriptor.__get__"))
  tk : PySem.W.takesIn K (.builtin "object.__class__") = some true
  nm : c ∈ xTab.map (·.1)
  cd : ∃ cd, PySem.W.clsIn K (xA K c) = some cd ∧ cd.name = Str.ofString c ∧ cd.mro = .ref (xA K c) :: (xB c).bm
theorem xcB_ok {K : PySem.W.Frag} {c : String} (h : xcB K c = true) : XcG K c := by
  unfold xcB at h
  simp only [Bool.and_eq_true, decide_eq_true_eq] at h
  obtain ⟨⟨h0, h1⟩, h2, h3, h4, h5, h7, h8, h9, h10, h11, h12, h13, h14⟩ := h
  refine ⟨⟨xB_ok c, h1, h2, h3, h4, h5⟩, h7, h8, h9, h10, h11, h12, h13, by simpa using h0, ?_⟩
  split at h14
  · rename_i cd hc
    simp only [Bool.and_eq_true, decide_eq_true_eq] at h14
    exact ⟨cd, hc, h14⟩
  · cases h14
inductive Xt | own (t : String) | bas (t : String)
deriving DecidableEq
def subX (c : String) : Xt → Bool
  | .own t => c == t
  | .bas t => (xB c).bm.contains (.type t)
def Xt.val (K : PySem.W.Frag) : Xt → Value
  | .own t => .ref (xA K t)
  | .bas t => .type t
def Xt.v (K : PySem.W.Frag) : Xt → V
  | .own t => .ref (xA K t)
  | .bas t => .ty t
def xBas : List String := ["ValueError", "LookupError", "RuntimeError", "OverflowError", "ArithmeticError", "KeyError", "IndexError", "NotImplementedError"]
def Xt.ok (K : PySem.W.Frag) : Xt → Prop
  | .own t => XcG K t
  | .bas t => t ∈ xBas
section
variable {K : PySem.W.Frag} {c t : String}
theorem bm_own (c : String) (a : Addr) : (xB c).bm.contains (.ref a) = false := by
  have : ∀ l : List (String × String × Bs), (∀ p ∈ l, p.2.2.bm.contains (.ref a) = false) → (xRow c l).2.bm.contains (.ref a) = false := by
    intro l
    induction l with
    | nil => intro _; rfl
    | cons p ps ih =>
      intro h
      unfold xRow
      split
      · exact h p List.mem_cons_self
      · exact ih fun q hq => h q (List.mem_cons_of_mem _ hq)
  refine this _ fun p hp => ?_
  simp only [xTab, List.mem_cons, List.not_mem_nil, or_false] at hp
  rcases hp with rfl | rfl | rfl | rfl | rfl | rfl | rfl | rfl | rfl | rfl | rfl | rfl <;> rfl
theorem bm_base (c : String) : (xB c).bm.contains (.type "BaseException") = true ∧ (xB c).bm.contains (.type "object") = true := by
  have : ∀ l : List (String × String × Bs), (∀ p ∈ l, p.2.2.bm.contains (.type "BaseException") = true ∧ p.2.2.bm.contains (.type "object") = true) → (xRow c l).2.bm.contains (.type "BaseException") = true ∧ (xRow c l).2.bm.contains (.type "object") = true := by
    intro l
    induction l with
    | nil => intro _; exact ⟨show bVE.bm.contains _ = true by decide, show bVE.bm.contains _ = true by decide⟩
    | cons p ps ih =>
      intro h
      unfold xRow
      split
      · exact h p List.mem_cons_self
      · exact ih fun q hq => h q (List.mem_cons_of_mem _ hq)
  refine this _ fun p hp => ?_
  simp only [xTab, List.mem_cons, List.not_mem_nil, or_false] at hp
  rcases hp with rfl | rfl | rfl | rfl | rfl | rfl | rfl | rfl | rfl | rfl | rfl | rfl <;> exact ⟨by decide, by decide⟩
theorem XcG.mro (G : XcG K c) (b : Value) : PySem.W.subIn K (.ref (xA K c)) b = some (((.ref (xA K c) : Value) == b) || (xB c).bm.contains b) := by
  obtain ⟨cd, h1, h2, h3⟩ := G.cd
  show PySem.W.mroIn K (xA K c) b = _
  unfold PySem.W.mroIn
  rw [h1, Option.bind_some, h3]
  rw [if_neg (by simp), List.contains_cons]
  congr 2
  exact Bool.eq_iff_iff.mpr ⟨fun h => by rw [eq_of_beq h]; simp, fun h => by rw [eq_of_beq h]; simp⟩
theorem xNames : ((xTab.map (·.1)).all fun a => (xTab.map (·.1)).all fun b => !decide (Str.ofString a = Str.ofString b) || decide (a = b)) = true := by decide +kernel
theorem XcG.inj (G : XcG K c) (T : XcG K t) (e : xA K c = xA K t) : c = t := by
  obtain ⟨cd, h1, h2, _⟩ := G.cd
  obtain ⟨cd2, g1, g2, _⟩ := T.cd
  rw [e, g1] at h1
  cases h1
  rw [h2] at g2
  have h3 := List.all_eq_true.mp (List.all_eq_true.mp xNames c G.nm) t T.nm
  simpa [g2] using h3
theorem XcG.isC (G : XcG K c) : ((PySem.W.clsIn K (xA K c)).isSome && PySem.W.typeIn K (.ref (xA K c)) == some (.type "type")) = true := by
  obtain ⟨cd, h1, _⟩ := G.cd
  rw [h1, G.ty]
  rfl
theorem XcG.sub (G : XcG K c) (T : XcG K t) : PySem.W.subIn K (.ref (xA K c)) (.ref (xA K t)) = some (c == t) := by
  rw [G.mro, bm_own, Bool.or_false]
  congr 1
  rw [Bool.eq_iff_iff, beq_iff_eq, beq_iff_eq]
  exact ⟨fun e => G.inj T (Value.ref.inj e), fun e => by rw [e]⟩
theorem XcG.exm (G : XcG K c) (T : XcG K t) : PySem.W.exmOne K (.ref (xA K c)) (.ref (xA K t)) = some (c == t) := by
  unfold PySem.W.exmOne
  rw [if_pos (by rw [T.mro, (bm_base t).1, Bool.or_true]; rfl)]
  show (if ((PySem.W.clsIn K (xA K t)).isSome && PySem.W.typeIn K (.ref (xA K t)) == some (.type "type")) = true then PySem.W.subIn K (.ref (xA K c)) (.ref (xA K t)) else none) = _
  rw [if_pos T.isC]
  exact G.sub T
theorem XcG.exmAny (G : XcG K c) : ∀ {ts : List String}, (∀ t ∈ ts, XcG K t) → PySem.W.exmAny K (.ref (xA K c)) (ts.map fun t => .ref (xA K t)) = some (ts.contains c)
  | [], _ => rfl
  | t :: ts, h => by
    show (match PySem.W.exmOne K (.ref (xA K c)) (.ref (xA K t)), PySem.W.exmAny K (.ref (xA K c)) (ts.map fun t => .ref (xA K t)) with
      | some b, some d => some (b || d)
      | _, _ => none) = _
    rw [G.exm (h t List.mem_cons_self), G.exmAny fun u hu => h u (List.mem_cons_of_mem _ hu), List.contains_cons]
theorem xBas_meta : (xBas.all fun t => PySem.W.kitMeta t) = true := by decide +kernel
theorem XcG.kit (G : XcG K c) {x : Xt} (hx : x.ok K) : PySem.W.kitOne K (.ref (xA K c)) (x.val K) = some (subX c x) := by
  cases x with
  | own t =>
    have T : XcG K t := hx
    unfold PySem.W.kitOne
    show (if ((Value.ref (xA K c)) == .ref (xA K t)) = true then some true else if ((PySem.W.clsIn K (xA K t)).isSome && PySem.W.typeIn K (.ref (xA K t)) == some (.type "type")) = true then PySem.W.subIn K (.ref (xA K c)) (.ref (xA K t)) else none) = some (c == t)
    rw [if_pos T.isC, G.sub T]
    split
    · rename_i e
      rw [G.inj T (Value.ref.inj (eq_of_beq e))]
      simp
    · rfl
  | bas t =>
    have T : t ∈ xBas := hx
    have hm : PySem.W.kitMeta t = true := List.all_eq_true.mp xBas_meta t T
    unfold PySem.W.kitOne
    show (if ((Value.ref (xA K c)) == .type t) = true then some true else if PySem.W.kitMeta t = true then PySem.W.subIn K (.ref (xA K c)) (.type t) else none) = some ((xB c).bm.contains (.type t))
    rw [if_pos hm, G.mro, if_neg (by intro h; cases eq_of_beq h)]
    rfl
theorem kit_non {x : Xt} (hx : x.ok K) : PySem.W.kitOne K (.type "NoneType") (x.val K) = some false := by
  cases x with
  | own t =>
    have T : XcG K t := hx
    unfold PySem.W.kitOne
    show (if ((Value.type "NoneType") == .ref (xA K t)) = true then some true else if ((PySem.W.clsIn K (xA K t)).isSome && PySem.W.typeIn K (.ref (xA K t)) == some (.type "type")) = true then (PySem.fastBuiltinMro "NoneType").map (·.contains (.ref (xA K t))) else none) = _
    rw [if_pos T.isC, if_neg (by intro h; cases eq_of_beq h)]
    rfl
  | bas t =>
    have T : t ∈ xBas := hx
    have : (xBas.all fun t => decide (kitB "NoneType" t = some false)) = true := by decide +kernel
    exact kit_ty (of_decide_eq_true (List.all_eq_true.mp this t T))
theorem kit_all {ty : Value} {f : Xt → Bool} : ∀ {xs : List Xt}, (∀ x ∈ xs, PySem.W.kitOne K ty (x.val K) = some (f x)) → PySem.W.kitAny K ty (xs.map (Xt.val K)) = some (xs.any f)
  | [], _ => kitAny_nil
  | x :: xs, h => by
    refine kitAny_cons (h x List.mem_cons_self) (fun e => ?_) fun e => ?_
    · rw [kit_all fun y hy => h y (List.mem_cons_of_mem _ hy), List.any_cons, e, Bool.false_or]
    · rw [List.any_cons, e, Bool.true_or]
theorem cls_val (K : PySem.W.Frag) (x : Xt) : ClsV (x.v K) (x.val K) := by
  cases x with
  | own t => exact .own _
  | bas t => exact .ty _
end
inductive XV (K : PySem.W.Frag) (H : Hp) : V → Value → Prop
  | non : XV K H .non (.type "NoneType")
  | exc {a d : Addr} {c : String} {fs : List (Str × V)} (G : XcG K c) (e : H a = some (XO a (xA K c) d)) (ed : H d = some (.xd fs)) : XV K H (.ref a) (.ref (xA K c))
section
variable {X : Cx} {pins : List (Addr × Obj)} {σ : L2.St} {H : Hp} {s : Shared}
theorem xo_at {P : Program} {w : World} {h : Heap} {a C d : Addr} (hok : HOk P w H h) (e : H a = some (XO a C d)) : ∃ o vs, h.get? a = some o ∧ o.cls = .ref C ∧ o.dict = some d ∧ o.data = .fields vs := by
  have x : ObjOk P w H h a (XO a C d) := hok a _ e
  exact x.1
theorem xo_inst {a C d : Addr} {fs : List (Str × V)} (I : Inv X pins σ H s) (e : H a = some (XO a C d)) (ed : H d = some (.xd fs)) : ∃ ox od, PySem.W.InstAt s.heap a ox C (some od) ∧ ∃ mA : Str → Option Value, (∀ f, RelO (fs.lookup f) (mA f)) ∧ ∀ n, PySem.W.lookIn n od = some (mA n) := by
  obtain ⟨ox, vs, h1, h2, h3, h4⟩ := xo_at I.hok e
  obtain ⟨mA, hns, hr⟩ := (show ObjOk X.prog X.w H s.heap d (.xd fs) from I.hok d _ ed)
  obtain ⟨od, ho, hl⟩ := lookIn_ns hns
  exact ⟨ox, od, ⟨h1, h2, by unfold PySem.W.notCls; rw [h4], by rw [h3]; exact ho⟩, mA, hr, hl⟩
theorem xv_kit {x : V} {u t : Value} (I : Inv X pins σ H s) (rx : RelV x u) (ty : XV X.K H x t) : ∃ P : Heap → Prop, PySem.W.KitX X.K u t P ∧ P s.heap ∧ u ≠ .builtin "__main__.__loader__#opaque" := by
  cases ty with
  | non => cases (show u = Value.none from rx); exact ⟨_, PySem.W.kitx_none, True.intro, fun z => nomatch z⟩
  | @exc a d c fs G e ed =>
    cases (show u = Value.ref a from rx)
    obtain ⟨ox, od, J, _⟩ := xo_inst I e ed
    obtain ⟨cd, h1, _⟩ := G.cd
    refine ⟨_, PySem.W.kitx_exc (x := a) (ox := ox) (od := some od) (by rw [h1]; rfl) G.ga G.gt (by rw [G.mro, (bm_base c).1, Bool.or_true]) G.cl G.gs G.tk ?_, J, fun z => nomatch z⟩
    have := G.mro (.type "object")
    rw [(bm_base c).2, Bool.or_true] at this
    exact this
theorem call_xis : CallR X (.builtin "isinstance") (fun xs H Q => ∃ (x c : V) (t u : Value) (b : Bool), xs = [x, c] ∧ ClsV c u ∧ XV X.K H x t ∧ PySem.W.kitOne X.K t u = some b ∧ Q (.bl b) H) := by
  rintro pins s σ H xs us Q I r ⟨x, c, t, u, b, rfl, k, ty, e, q⟩
  obtain ⟨u1, u2, rfl, r1, r2⟩ := vals2 r
  cases k.eq r2
  obtain ⟨P, Z, p, hx⟩ := xv_kit I r1 ty
  exact PySem.W.kia_one Z I.kIn p e hx fun tk => ⟨.bl b, _, I.tok tk, rfl, q⟩
theorem call_xisT : CallR X (.builtin "isinstance") (fun xs H Q => ∃ (x : V) (tp : Addr) (cs : List V) (t : Value) (us : List Value) (b : Bool), xs = [x, .ref tp] ∧ H tp = some (.tup cs) ∧ Paired ClsV cs us ∧ XV X.K H x t ∧ PySem.W.kitAny X.K t us = some b ∧ Q (.bl b) H) := by
  rintro pins s σ H xs us Q I r ⟨x, tp, cs, t, ws, b, rfl, hT, k, ty, e, q⟩
  obtain ⟨u1, u2, rfl, r1, r2⟩ := vals2 r
  cases (show u2 = Value.ref tp from r2)
  obtain ⟨P, Z, p, hx⟩ := xv_kit I r1 ty
  obtain ⟨_, its, rv, ⟨oc, od, dt, sl⟩, h1, h2, n, h3⟩ := (show ObjOk X.prog X.w H s.heap tp (.tup cs) from I.hok tp _ hT)
  cases ClsV.all k rv
  simp only at h2 h3
  subst h2 h3
  exact PySem.W.kia_tup Z I.kIn p h1 e hx fun tk => ⟨.bl b, _, I.tok tk, rfl, q⟩
end
end Tw
set_option Elab.async false
set_option linter.all false
set_option autoImplicit false
set_option maxRecDepth 100000
namespace Tw
open PySem PySem.Spec L2 PyProof.Rows
structure XCl (hp : Heap) (C : Addr) (B newId initId : String) (bmB : List Value) : Prop where
  F : ExcBaseFacts B newId initId bmB
  at_ : ∃ nm N qn bs bm hdct sn sub ab col dd k0 k1 k2 k3 k5, hp.get? C = some (excClassObj nm qn C N bs bm hdct sn sub ab col dd k0 k1 k2 k3 k5 newId) ∧ ∀ X : String, bm.contains (.type X) = bmB.contains (.type X)
section
variable {pr : Program} {wd : World} {Ar : Around} {Er : Value → Shared → Prop} {hp : Heap} {gs : Array GenState} {dr : Drawn} {tk : Nat} {os : OsState} {C : Addr} {B newId initId : String} {bmB us : List Value} {kw : List (Str × Value)} {fI : Addr}
theorem kw_new_check {Md : Model} {Q : Unit → Shared → Prop} (o : XCl hp C B newId initId bmB) (fin : Q () ⟨hp, gs, dr, tk, os⟩) : wpAny Md Ar (checkBuiltinCall newId ⟨.ref C :: us, kw⟩) Q Er ⟨hp, gs, dr, tk, os⟩ := by
  obtain ⟨F, nm, N, qn, bs, bm, hdct, sn, sub, ab, col, dd, k0, k1, k2, k3, k5, hC, hT⟩ := o
  have z1 : (Value.ref C :: bm).contains (.type B) = true := by
    rw [List.contains_cons, hT, F.hasB]
    exact Bool.or_true _
  have z2 := F.noStar
  simp only [F.newKind, F.newSplit, F.newRow, checkBuiltinCall]
  repeat (first
    | refine wpAny_loadPart_at hC ?_
    | (refine wpAny_isSubtype_exc hC ?_
       rw [z1])
    | refine wpAny_staticBase_exc hC ?_
    | refine wpAny_madeBy_exc hC ?_
    | simp only [bne_self_eq_false, if_false, Bool.false_eq_true]
    | wp_step)
  exact fin
theorem kw_new {Rr : Result → Shared → Prop} (o : XCl hp C B newId initId bmB) (lu : us.length ≤ sizeLine)
    (fin : Rr (.ok (.ret (.ref (hp.objs.size + 1)))) ⟨(hp.push (PySem.W.kdv_tup us)).push (PySem.HandSPX.excO C hp.objs.size), gs, dr, tk, os⟩) : codeAny (model pr wd) Ar (.builtin newId ⟨.ref C :: us, kw⟩) Rr ⟨hp, gs, dr, tk, os⟩ := by
  obtain ⟨F, nm, N, qn, bs, bm, hdct, sn, sub, ab, col, dd, k0, k1, k2, k3, k5, hC, hT⟩ := o
  have z0 := F.ends
  have has : ∀ X : String, (Value.ref C :: bm).contains (.type X) = bmB.contains (.type X) := fun X => by
    rw [List.contains_cons, hT]
    rfl
  have z1 := (has B).trans F.hasB
  have z2 := (has "AttributeError").trans F.noAttr
  have z3 := (has "NameError").trans F.noName
  apply codeAny_builtinAt F.entry
  delta Builtin.«BaseException.__new__»
  refine PySem.wpAt_bind ?_
  show PySem.wpAt (model pr wd) _ _ (stack >>= _) _ _ _
  refine PySem.wpAt_bind (PySem.wpAt_stack fun _ _ => PySem.wpAt_of_wpAny ?_)
  wp_walk
  apply PySem.wpAt_of_wpAny
  rw [F.owner]
  repeat (first
    | with_reducible refine wpAny_madeHere_exc F.canon hC ?_
    | with_reducible refine wpAny_loadPart_at hC ?_
    | (with_reducible refine wpAny_isSubtype_exc hC ?_
       first
         | rw [z1]
         | rw [z2]
         | rw [z3])
    | wp_step)
  show Rr _ _
  rw [Heap.size_push]
  exact fin
theorem kw_type_call {Q : Fin → Shared → Prop} (o : XCl hp C B newId initId bmB) (lu : us.length ≤ sizeLine)
    (hi : PySem.W.Looks (model pr wd) hp (typeLookup (.ref C) "__init__") (some (.ref fI))) (hb : ∀ self, PySem.W.Looks (model pr wd) hp (bindSpecial (.ref fI) self) (.ref fI, [self]))
    (fin : codeAny (model pr wd) Ar (.call (.ref fI) ⟨.ref (hp.objs.size + 1) :: us, kw⟩) (fun r s2 => match r with
      | .ok (.ret v) => v = .none ∧ Q (.done (.ret (.ref (hp.objs.size + 1)))) s2
      | .ok _ => False
      | .error e => Er e s2) ⟨(hp.push (PySem.W.kdv_tup us)).push (PySem.HandSPX.excO C hp.objs.size), gs, dr, tk, os⟩) :
    wpAny (model pr wd) Ar (Builtin.«type.__call__» ⟨.ref C :: us, kw⟩) Q Er ⟨hp, gs, dr, tk, os⟩ := by
  have o2 := o
  obtain ⟨F, nm, N, qn, bs, bm, hdct, sn, sub, ab, col, dd, k0, k1, k2, k3, k5, hC, hT⟩ := o
  repeat (first
    | with_reducible refine wpAny_loadPart_at hC ?_
    | with_reducible refine wpAny_madeBy_exc hC ?_
    | wp_step)
  apply codeAny_call_builtin_code (Code.quiet_builtin _ F.quiet)
  apply kw_new_check o2
  apply kw_new o2 lu
  show wpAny (model pr wd) _ _ _ _ _
  have kk : ∀ b v, hp.get? b = some v → ((hp.push (PySem.W.kdv_tup us)).push (PySem.HandSPX.excO C hp.objs.size)).get? b = some v := fun _ _ e => Heap.get?_push_of_some _ (Heap.get?_push_of_some _ e)
  have c1 := kk _ _ hC
  have own : ((hp.push (PySem.W.kdv_tup us)).push (PySem.HandSPX.excO C hp.objs.size)).get? (hp.objs.size + 1) = some (PySem.HandSPX.excO C hp.objs.size) := by heap_get
  have cc : (Value.ref C :: bm).contains (.ref C) = true := List.contains_iff_mem.mpr List.mem_cons_self
  delta isInstance
  repeat (first
    | with_reducible refine wpAny_loadPart_at own ?_
    | (with_reducible refine wpAny_isSubtype_exc c1 ?_
       rw [cc])
    | wp_step)
  show wpAny (model pr wd) _ (typeLookup (.ref C) _) _ _ _
  apply (hi.keeps kk).at
  apply wpAny_holding
  apply wpAny_bind
  apply ((hb (.ref (hp.objs.size + 1))).keeps kk).at
  apply wpAny_bind
  apply wpAny_call
  refine codeAny_mono fin fun r s2 z => ?_
  cases r with
  | error e => exact z
  | ok fl =>
    cases fl with
    | ret v =>
      obtain ⟨rfl, z⟩ := z
      exact wpAny_pure (wpAny_pure z)
    | next => exact z.elim
    | brk => exact z.elim
    | cont => exact z.elim
theorem kw_call {Rr : Result → Shared → Prop} (o : XCl hp C B newId initId bmB) (lu : us.length ≤ sizeLine)
    (hi : PySem.W.Looks (model pr wd) hp (typeLookup (.ref C) "__init__") (some (.ref fI))) (hb : ∀ self, PySem.W.Looks (model pr wd) hp (bindSpecial (.ref fI) self) (.ref fI, [self]))
    (fin : codeAny (model pr wd) (Ar.under (.builtin "type.__call__" ⟨.ref C :: us, kw⟩)) (.call (.ref fI) ⟨.ref (hp.objs.size + 1) :: us, kw⟩) (PySem.W.InitBack (hp.objs.size + 1) Rr)
      ⟨(hp.push (PySem.W.kdv_tup us)).push (PySem.HandSPX.excO C hp.objs.size), gs, dr, tk, os⟩) :
    codeAny (model pr wd) Ar (.call (.ref C) ⟨us, kw⟩) Rr ⟨hp, gs, dr, tk, os⟩ := by
  have o2 := o
  obtain ⟨F, nm, N, qn, bs, bm, hdct, sn, sub, ab, col, dd, k0, k1, k2, k3, k5, hC, hT⟩ := o
  have z1 := tc_lookup
  have z2 := tc_bind (.ref C)
  have z3 : Shared.TypeIs ⟨hp, gs, dr, tk, os⟩ (.ref C) "type" := ⟨_, hC, rfl⟩
  have isT : PySem.W.Looks (model pr wd) hp (isInstance (.ref C) (.type "type")) true := by
    delta isInstance
    exact ((PySem.W.Looks.ld (part := none) hC).andThen .now).andThen (PySem.W.Looks.of_pure tc_sub)
  apply codeAny_of_tree
  show wpAny (model pr wd) _ (callAny (.ref C) _) _ _ _
  repeat (any_goals (first
    | assumption
    | with_reducible refine wpAny_loadPart_at hC ?_
    | wp_step))
  constructor
  · rfl
  apply codeAny_call_builtin_at (Code.quiet_builtin _ (by decide +kernel)) entry_typeCall
  apply PySem.W.check_slot tc_kind tc_split isT (PySem.W.tc_args _ _ _)
  apply kw_type_call o2 lu hi hb
  refine codeAny_mono fin fun r s2 z => ?_
  cases r with
  | error e => exact z
  | ok fl => cases fl <;> exact z
end
end Tw
set_option Elab.async false
set_option linter.all false
set_option autoImplicit false
set_option maxRecDepth 100000
namespace Tw
open PySem PySem.Spec PyProof.Rows L2 Builtin.ObjectAttr
def locS (sc : Scope) (x : Str) : Bool := match sc.names.lookup x with
  | some .local => true
  | _ => false
theorem locS_ok {sc : Scope} {x : Str} (h : locS sc x = true) : sc.names.lookup x = some .local := by
  unfold locS at h
  split at h
  · assumption
  · cases h
def gloS (sc : Scope) (x : Str) : Bool := match sc.names.lookup x with
  | some .globalImplicit => true
  | _ => false
theorem gloS_ok {sc : Scope} {x : Str} (h : gloS sc x = true) : sc.names.lookup x = some .globalImplicit := by
  unfold gloS at h
  split at h
  · assumption
  · cases h
def plnS (sc : Scope) : Bool := (match sc.kind with
  | .function => true
  | _ => false) && (!sc.isCoroutine && (!sc.isGenerator && sc.names.all fun y => match y.2 with
  | .free => false
  | _ => true))
def iniP (c : String) (ps : Arguments) : Bool := ps.posonlyargs.isEmpty && (ps.vararg.isNone && (ps.kwonlyargs.isEmpty && (ps.kwarg.isNone && (ps.defaults.isEmpty && decide (ps.args.map (·.arg) = [("self" : Str), xF c])))))
def iniS (c : String) (sc : Scope) : Bool := plnS sc && (locS sc "self" && (locS sc (xF c) && (gloS sc (Str.ofString (xB c).B) && (decide (("self" : Str) ≠ xF c) && (!(xF c == ("__debug__" : Str)) && !(xF c == ("__classdict__" : Str)))))))
def iniT (c : String) (body : List Stmt) : Bool := match body with
  | [.Expr (.Call (.Attribute (.Name B _) i p2) [.Name s1 _, .Constant (.str _) _ _] [] p5) _, .Assign [.Attribute (.Name s2 _) f _] (.Name f2 _) _] =>
    (p2.endLine == p5.line) && (decide (B = Str.ofString (xB c).B) && (decide (i = "__init__") && (decide (s1 = "self") && (decide (s2 = "self") && (decide (f = xF c) && decide (f2 = xF c))))))
  | _ => false
theorem iniT_ok {c : String} {body : List Stmt} (h : iniT c body = true) : ∃ p1 p2 p3 z j p4 p5 p6 p7 p8 p9 p10, (p2.endLine == p5.line) = true ∧
    body = [.Expr (.Call (.Attribute (.Name (Str.ofString (xB c).B) p1) "__init__" p2) [.Name "self" p3, .Constant (.str z) j p4] [] p5) p6, .Assign [.Attribute (.Name "self" p7) (xF c) p8] (.Name (xF c) p9) p10] := by
  unfold iniT at h
  split at h
  · simp only [Bool.and_eq_true, decide_eq_true_eq] at h
    obtain ⟨hl, rfl, rfl, rfl, rfl, rfl, rfl⟩ := h
    exact ⟨_, _, _, _, _, _, _, _, _, _, _, _, hl, rfl⟩
  · cases h
theorem ini_shape {B : Str} {p3 p4 p1 p2 pos : Pos} {z : Str} {j : Nat} {env : Env} (hl : (p2.endLine == pos.line) = true) : eval (.Call (.Attribute (.Name B p1) "__init__" p2) [.Name "self" p3, .Constant (.str z) j p4] [] pos) env = (do
      let ov ← eval (.Name B p1) env
      standAt p2.atName
      let (f, first) ← holding [ov] (getMethod ov "__init__" (plainOf (.Name B p1) env))
      callWith pos f first (backTo pos (starEach [.Name "self" p3, .Constant (.str z) j p4] env)) (backToKw pos (keywordEach [] env))) := by
  rw [arm_eval_Call]
  show (do
    let ov ← eval (.Name B p1) env
    standAt p2.atName
    methodCall (.Name B p1) "__init__" p2 pos env ov 2 (backTo pos (starEach [.Name "self" p3, .Constant (.str z) j p4] env)) (backToKw pos (keywordEach [] env))) = _
  refine congrArg _ (funext fun ov => congrArg _ (funext fun _ => ?_))
  exact mcall_line (by rfl) hl
def spI (K : PySem.W.Frag) (c : String) : Sp := fun vs H Q _ => ∃ (a : Addr) (y : V), vs = [.ref a, y] ∧ H a = some (exo a (xA K c) none) ∧ ∀ dx, H dx = none → dx ≠ a → Q .non (upd (upd H dx (exd dx [(xF c, y)])) a (exo a (xA K c) (some dx)))
theorem ini_fn {P : Program} {w : World} {K : PySem.W.Frag} {mg : Str → Option Value} {base : Heap} {CX : CXT} {k : Nat} {c : String} {fI : Addr} {fd : FuncData} {d : He.DefD} (G : XcG K c)
    (F : FunD K d.name d.qual d.params d.body d.scope (d.dvs K) (d.kws K) fI fd) (h1 : iniS c d.scope = true) (h2 : iniT c d.body = true) (hm : mg (Str.ofString (xB c).B) = none) : FnOk P w K mg base CX (k + 1) fI fd ["self", xF c] (spI K c) := by
  obtain ⟨p1, p2, p3, z, j, p4, p5, p6, p7, p8, p9, p10, hl, hb⟩ := iniT_ok h2
  unfold iniS plnS at h1
  simp only [Bool.and_eq_true, Bool.not_eq_true', decide_eq_true_eq] at h1
  obtain ⟨⟨k1, k2, k3, k4⟩, l1, l2, l3, ne, d1, d2⟩ := h1
  have l1 := locS_ok l1
  have l2 := locS_ok l2
  have l3 := gloS_ok l3
  have kind : d.scope.kind = .function := by
    split at k1
    · assumption
    · cases k1
  have S : FnScope ["self", xF c] ["self", xF c] d.scope := by
    refine ⟨kind, k2, k3, by simp [ne], rfl, fun x hx => ?_, fun y hy e => ?_⟩
    · simp only [List.mem_cons, List.not_mem_nil, or_false] at hx
      rcases hx with rfl | rfl
      · exact .inl l1
      · exact .inl l2
    · have q := List.all_eq_true.mp k4 y hy
      rw [e] at q
      cases q
  refine F.ok S (fun vs H Q E ⟨a, y, e, _⟩ => by rw [e]; rfl) fun cdv A outer s H vs Q E hr hsp => ?_
  obtain ⟨a, y, rfl, ea, q⟩ := hsp
  rw [hb]
  have v0 : ∀ {pos : Pos}, PE (cxOf CX P w K mg base ["self", xF c] d.qual d.scope fI cdv A outer s H E) (.Name "self" pos) (tVar 0) := fun {pos} => pe_var rfl (.inl l1) (by decide) (by decide)
  have v1 : ∀ {pos : Pos}, PE (cxOf CX P w K mg base ["self", xF c] d.qual d.scope fI cdv A outer s H E) (.Name (xF c) pos) (tVar 1) := fun {pos} => pe_var rfl (.inl l2) d1 d2
  refine ⟨_, pss_cons (ps_expr (pe_ini (xB_ok c) rfl l3 hm (pa_cons v0 (pa_cons pe_str pa_nil)) (ini_shape hl))) (pss_one (ps_fld (b := xB c) v0 v1)), ?_⟩
  refine ⟨.ref a, rfl, a, xA K c, xF c, _, rfl, by show 1 ≤ 1000; decide, G.k, ea, ?_⟩
  refine ⟨y, rfl, .ref a, rfl, a, xA K c, rfl, G.k, ea, fun dx n ne => q dx n ne⟩
structure MkOk (X : Cx) (c : String) : Prop where
  G : XcG X.K c
  mg : X.mg (Str.ofString c) = some (.ref (xA X.K c))
  fi : ∃ (fI : Addr) (fd : FuncData) (k : Nat), PySem.W.findIn X.K (.ref (xA X.K c)) "__init__" = some (some (.ref fI)) ∧ PySem.W.typeIn X.K (.ref fI) = some (.type "function") ∧
    FnOk X.prog X.w X.K X.mg X.base (L2.CX X.prog X.w) k fI fd ["self", xF c] (spI X.K c) ∧ Room (k + 1) X.A ∧ Binds X.K fd ["self", xF c] [] ∧
    ∀ (s : Shared) (u v : Value), BindsTo s fd ⟨[u], [(xF c, v)]⟩ [("self", u), (xF c, v)]
def tMkX (c : String) (K : PySem.W.Frag) (ta : TA) : L2.St → Hp → XK → Prop := fun σ H Q => ta σ H fun vs H1 => ∃ y, vs = [y] ∧ ∀ d, H1 d = none → Q (.ref (xA K c)) (some d) (upd H1 d (.xd [(xF c, y)]))
section
variable {X : Cx} {c : String} {e : Expr} {ta : TA} {p pos pos2 : Pos} {W : WX}
theorem mkx_core (M : MkOk X c) (hx : Passes (L2.CX X.prog X.w) X (fun _ _ _ => False)) {fI : Addr} {fd : FuncData} {k : Nat} (iC : PySem.W.findIn X.K (.ref (xA X.K c)) "__init__" = some (some (.ref fI))) (tI : PySem.W.typeIn X.K (.ref fI) = some (.type "function"))
    (F1 : FnOk X.prog X.w X.K X.mg X.base (L2.CX X.prog X.w) k fI fd ["self", xF c] (spI X.K c)) (hr : Room (k + 1) X.A) {us : List Value} {kw : List (Str × Value)} {u : Value} {y : V} (lu : us.length ≤ 1)
    (hb : ∀ (s : Shared) (v0 : Value), X.K.In s.heap → BindsTo s fd ⟨v0 :: us, kw⟩ [("self", v0), (xF c, u)]) {pins : List (Addr × Obj)} {σ : L2.St} {H1 : Hp} {Q : XK} {s1 : Shared} (I1 : Inv X pins σ H1 s1) (r1 : RelV y u)
    (q1 : ∀ d, H1 d = none → Q (.ref (xA X.K c)) (some d) (upd H1 d (.xd [(xF c, y)]))) : wpAny (model X.prog X.w) X.A (call (.ref (xA X.K c)) us kw) (MkP X pins σ Q) X.xe s1 := by
  obtain ⟨hp, g, dr, tk, os⟩ := s1
  have own : XCl hp (xA X.K c) _ _ _ _ := ⟨M.G.k.ok.F, PySem.W.excInit_of I1.kIn M.G.k.sh⟩
  have big : hp.objs.size ≤ hp.objs.size + 1 := Nat.le_succ _
  have nH : H1 (hp.objs.size + 1) = none := I1.hok.fresh big
  have kk : ∀ b o, hp.get? b = some o → ((hp.push (PySem.W.kdv_tup us)).push (PySem.HandSPX.excO (xA X.K c) hp.objs.size)).get? b = some o := fun b o e => Heap.get?_push_of_some _ (Heap.get?_push_of_some _ e)
  have at1 : ((hp.push (PySem.W.kdv_tup us)).push (PySem.HandSPX.excO (xA X.K c) hp.objs.size)).get? (hp.objs.size + 1) = some (PySem.HandSPX.excO (xA X.K c) hp.objs.size) := by heap_get
  have I2 : Inv X pins σ (upd H1 (hp.objs.size + 1) (exo (hp.objs.size + 1) (xA X.K c) none)) ⟨(hp.push (PySem.W.kdv_tup us)).push (PySem.HandSPX.excO (xA X.K c) hp.objs.size), g, dr, tk, os⟩ :=
    I1.laid (t' := tk) kk big (exo_ok at1)
  have r2 : Vals [V.ref (hp.objs.size + 1), y] [Value.ref (hp.objs.size + 1), u] := .cons rfl (.cons r1 .nil)
  have b2 := hb ⟨(hp.push (PySem.W.kdv_tup us)).push (PySem.HandSPX.excO (xA X.K c) hp.objs.size), g, dr, tk, os⟩ (Value.ref (hp.objs.size + 1)) I2.kIn
  have sp : spI X.K c [V.ref (hp.objs.size + 1), y] (upd H1 (hp.objs.size + 1) (exo (hp.objs.size + 1) (xA X.K c) none))
      (fun v H2 => v = .non ∧ ∃ d, H1 d = none ∧ d ≠ hp.objs.size + 1 ∧ H2 = upd (upd (upd H1 (hp.objs.size + 1) (exo (hp.objs.size + 1) (xA X.K c) none)) d (exd d [(xF c, y)])) (hp.objs.size + 1) (exo (hp.objs.size + 1) (xA X.K c) (some d))) (fun _ _ _ => False) :=
    ⟨_, y, rfl, upd_same, fun d n ne => ⟨rfl, d, by rw [upd_ne ne] at n; exact n, ne, rfl⟩⟩
  refine wpAny_call (kw_call own (by rw [sizeLine_eq]; omega) (PySem.W.looks_findIn I1.kIn iC) (fun self => PySem.W.bind_fn I1.kIn self tI)
    (codeAny_mono (F1.run _ X.stack _ _ ⟨Value.ref (hp.objs.size + 1) :: us, kw⟩ [Value.ref (hp.objs.size + 1), u] _ _ (fun _ _ _ => False) (hr.make (xA X.K c) us kw) (I2.env0.make (xA X.K c) us kw) b2 r2 sp) fun r s' hq => ?_))
  cases r with
  | error er => exact hx pins σ _ _ er s' I2 hq
  | ok fl =>
    cases fl with
    | ret u =>
      obtain ⟨v, H2, os2, bare2, un2, hok2, rv, ev, d, hd1, ne, eH⟩ := hq
      subst ev
      obtain ⟨h2, g2, d2, t2, os'⟩ := s'
      subst eH
      have e1 : (upd (upd (upd H1 (hp.objs.size + 1) (exo (hp.objs.size + 1) (xA X.K c) none)) d (exd d [(xF c, y)])) (hp.objs.size + 1) (exo (hp.objs.size + 1) (xA X.K c) (some d))) (hp.objs.size + 1) = some (exo (hp.objs.size + 1) (xA X.K c) (some d)) := upd_same
      have e2 : (upd (upd (upd H1 (hp.objs.size + 1) (exo (hp.objs.size + 1) (xA X.K c) none)) d (exd d [(xF c, y)])) (hp.objs.size + 1) (exo (hp.objs.size + 1) (xA X.K c) (some d))) d = some (exd d [(xF c, y)]) := by
        rw [upd_ne ne, upd_same]
      have e3 : upd (del (upd (upd (upd H1 (hp.objs.size + 1) (exo (hp.objs.size + 1) (xA X.K c) none)) d (exd d [(xF c, y)])) (hp.objs.size + 1) (exo (hp.objs.size + 1) (xA X.K c) (some d))) (hp.objs.size + 1)) d (.xd [(xF c, y)]) = upd H1 d (.xd [(xF c, y)]) := by
        funext b
        by_cases hb : b = d
        · rw [hb, upd_same, upd_same]
        · rw [upd_ne hb, upd_ne hb]
          by_cases ha : b = hp.objs.size + 1
          · rw [ha, del_same, nH]
          · rw [del_ne ha, upd_ne ha, upd_ne hb, upd_ne ha]
      exact ⟨rv, mk_end (raises_own (by rw [M.G.mro, (bm_base c).1, Bool.or_true]) M.G.ty) I1 big kk un2 hok2 os2 bare2 e1 e2 hd1 (by rw [e3]; exact q1 d hd1)⟩
    | next => exact False.elim hq
    | brk => exact False.elim hq
    | cont => exact False.elim hq
theorem pmk_x (M : MkOk X c) (hx : Passes (L2.CX X.prog X.w) X (fun _ _ _ => False)) (hg : Gl X (Str.ofString c)) (hd : (Str.ofString c == ("__debug__" : Str)) = false) (ha : PA X [e] ta)
    (he : starEach [e] X.env = (false, eval e X.env) :: starEach [] X.env) : PMk X (.Call (.Name (Str.ofString c) p) [e] [] pos) (tMkX c X.K ta) := by
  intro pins s σ H Q I h
  obtain ⟨fI, fd, k, iC, tI, F1, hr, hb, _⟩ := M.fi
  refine wpAny_Call_Name_kw (ld_glob I hg M.mg ?_ hd)
  refine PySem.W.callWith_K (h₀ := X.base) I.ok.mod.kin M.G.kp (thn (ha.run pos pins s σ H _ I h) fun us s1 hh => ?_) he (by rfl)
  obtain ⟨vs, H1, I1, r1, y, rfl, q1⟩ := hh
  cases r1 with
  | cons ry rn =>
    cases rn
    refine ⟨I1.kIn, mkx_core M hx iC tI F1 hr (Nat.le_refl _) (fun s v0 hK => ?_) I1 ry q1⟩
    have b2 : ∀ u : Value, BindsTo s fd ⟨[v0, u], []⟩ [("self", v0), (xF c, u)] := fun u => by
      have z := hb s [v0, u] hK rfl
      rw [List.append_nil] at z
      exact z
    exact b2 _
theorem pmk_xk {kp : Pos} (M : MkOk X c) (hx : Passes (L2.CX X.prog X.w) X (fun _ _ _ => False)) (hg : Gl X (Str.ofString c)) (hd : (Str.ofString c == ("__debug__" : Str)) = false) (ha : PK X [⟨some (xF c), e, kp⟩] ta) :
    PMk X (.Call (.Name (Str.ofString c) p) [] [⟨some (xF c), e, kp⟩] pos) (tMkX c X.K ta) := by
  intro pins s σ H Q I h
  obtain ⟨fI, fd, k, iC, tI, F1, hr, _, hb⟩ := M.fi
  refine wpAny_Call_Name_kw (ld_glob I hg M.mg ?_ hd)
  refine PySem.W.callWith_KW0 (h₀ := X.base) I.ok.mod.kin M.G.kp rfl (thn (ha.run pos pins s σ H _ I h) fun us s1 hh => ?_) rfl
  obtain ⟨vs, H1, I1, r1, y, rfl, q1⟩ := hh
  cases r1 with
  | cons ry rn =>
    cases rn
    exact ⟨I1.kIn, mkx_core M hx iC tI F1 hr (Nat.zero_le _) (fun s v0 hK => hb s v0 _) I1 ry q1⟩
theorem ps_raiseX (hc : X.calm = true) (tk : Takes X W) (M : MkOk X c) (hx : Passes (L2.CX X.prog X.w) X (fun _ _ _ => False)) (hg : Gl X (Str.ofString c)) (hd : (Str.ofString c == ("__debug__" : Str)) = false) (ha : PA X [e] ta)
    (he : starEach [e] X.env = (false, eval e X.env) :: starEach [] X.env) : PS X (.Raise (some (.Call (.Name (Str.ofString c) p) [e] [] pos)) none pos2) (fun _ σ H => tMkX c X.K ta σ H fun cls d H' => W cls d σ H') := ps_raise hc tk (pmk_x M hx hg hd ha he)
end
end Tw
set_option Elab.async false
set_option linter.all false
set_option autoImplicit false
set_option maxRecDepth 100000
namespace Tw
open PySem PySem.Spec PyProof.Rows L2
abbrev Ad := PySem.Addr
abbrev KF := List (Option Int)
def k1 : Option Int → NestedKey
  | none => .none
  | some i => .num i
def kN (k : KF) : NestedKey := .tup (k.map k1)
def h1f : Option Int → Int
  | none => reduceHash 0xFCA86420
  | some i => hashInt i
def hash0 (k : KF) : Int := reduceHash (Builtin.Tuple.tupleHashOf (k.map h1f))
def k1V : Option Int → V
  | none => .non
  | some i => .int i
theorem k1_inj : ∀ {a b : Option Int}, k1 a = k1 b → a = b
  | none, none, _ => rfl
  | some a, some b, h => by
    simp only [k1] at h
    injection h with h
    rw [h]
  | none, some b, h => by simp [k1] at h
  | some a, none, h => by simp [k1] at h
theorem k1s_inj : ∀ {a b : KF}, a.map k1 = b.map k1 → a = b
  | [], [], _ => rfl
  | [], _ :: _, h => by simp at h
  | _ :: _, [], h => by simp at h
  | x :: xs, y :: ys, h => by
    rw [List.map_cons, List.map_cons] at h
    injection h with h1 h2
    rw [k1_inj h1, k1s_inj h2]
theorem kN_inj {a b : KF} (h : kN a = kN b) : a = b := by
  unfold kN at h
  injection h with h
  exact k1s_inj h
theorem hashes_k (w : World) : ∀ k : KF, NestedKey.hashes w (k.map k1) = k.map h1f
  | [] => rfl
  | none :: k => by
    rw [List.map_cons, List.map_cons, ← hashes_k w k]
    rfl
  | some i :: k => by
    rw [List.map_cons, List.map_cons, ← hashes_k w k]
    rfl
theorem hash_k (w : World) (k : KF) : (kN k).hash w = hash0 k := by
  unfold kN hash0
  rw [← hashes_k w k]
  rfl
theorem depth_k (k : KF) : (kN k).depth ≤ 8 := by
  have : ∀ k : KF, NestedKey.depthAll (k.map k1) = 0 := by
    intro k
    induction k with
    | nil => rfl
    | cons a k ih =>
      rw [List.map_cons]
      unfold NestedKey.depthAll
      rw [ih]
      cases a <;> rfl
  show NestedKey.depthAll (k.map k1) + 1 ≤ 8
  rw [this]
  omega
theorem items_k {h : Heap} : ∀ {k : KF} {us : List Value}, Vals (k.map k1V) us → NestedAll h (k.map k1) us
  | [], _, r => by cases r; exact .nil
  | none :: k, _, r => by
    rw [List.map_cons] at r
    cases r with
    | cons r1 r2 =>
      cases (show _ = Value.none from r1)
      exact .cons .none (items_k r2)
  | some i :: k, _, r => by
    rw [List.map_cons] at r
    cases r with
    | cons r1 r2 =>
      obtain ⟨t, e⟩ := (show ∃ t, _ = Value.int i t from r1)
      subst e
      exact .cons (.int i t) (items_k r2)
def KeyAt (K : PySem.W.Frag) (H : Hp) (k : KF) (b : Ad) : Prop := SqT K H b (k.map k1V)
abbrev Prs := List (KF × Ad × V)
def DicR (h : Heap) (a : Ad) (xs : Prs) : Prop := xs.length ≤ sizeLine ∧ (a == sysModules) = false ∧ ∃ ys : List (KF × Ad × Value), Paired (fun (p : KF × Ad × V) (q : KF × Ad × Value) => p.1 = q.1 ∧ p.2.1 = q.2.1 ∧ RelV p.2.2 q.2.2) xs ys ∧
  ∃ o es ep, h.get? a = some o ∧ o.ExactDict ∧ o.data = .dict es ep ∧ es.toList = ys.map (fun y => (⟨hash0 y.1, .ref y.2.1, y.2.2⟩ : DictEntry)) ∧ (xs.map (·.1)).Nodup
def dicO (a : Ad) (xs : Prs) : HO := .ext fun h => DicR h a xs
theorem dicO_new {P : Program} {w : World} {H : Hp} {h : Heap} {a : Ad} {xs : Prs} (r : DicR h a xs) : ObjOk P w H h a (dicO a xs) := by
  have ⟨_, _, _, _, o, _, _, ho, _⟩ := r
  refine ⟨r, ⟨o, ho⟩, fun h1 h2 p k => ?_⟩
  obtain ⟨z, y, ys, q, o, es, ep, e, c⟩ := p
  exact ⟨z, y, ys, q, o, es, ep, k _ e, c⟩
def zsOf (ys : List (KF × Ad × Value)) : List (NestedKey × Ad × Value) := ys.map fun y => (kN y.1, y.2.1, y.2.2)
def valN (xs : Prs) (k : KF) : Option V := (xs.find? fun x => decide (x.1 = k)).map (·.2.2)
def putN (xs : Prs) (k : KF) (b : Ad) (v : V) : Prs := if (valN xs k).isSome then xs.map (fun x => if x.1 = k then (x.1, x.2.1, v) else x) else xs ++ [(k, b, v)]
abbrev PR : KF × Ad × V → KF × Ad × Value → Prop := fun p q => p.1 = q.1 ∧ p.2.1 = q.2.1 ∧ RelV p.2.2 q.2.2
theorem keys_eq : ∀ {l : Prs} {m : List (KF × Ad × Value)}, Paired PR l m → l.map (·.1) = m.map (·.1)
  | _, _, .nil => rfl
  | _, _, .cons hq t => by rw [List.map_cons, List.map_cons, hq.1, keys_eq t]
section
variable {X : Cx} {pins : List (Addr × Obj)} {σ : L2.St} {H : Hp} {s : Shared} {a b : Ad} {xs : Prs} {k : KF} {y v : V} {u r : Value} {A : Around} {E : Value → Shared → Prop}
theorem key_is (I : Inv X pins σ H s) (h : KeyAt X.K H k b) : (nestedKind X.prog X.w).is s.heap (kN k) b := by
  obtain ⟨its, r, ⟨o, h1, h2, n, h3⟩, z⟩ := I.tuple h
  exact ⟨.tup h1 h2 h3 (by simpa using items_k r), depth_k k⟩
theorem dic_of (I : Inv X pins σ H s) (e : H a = some (dicO a xs)) (hk : ∀ x ∈ xs, KeyAt X.K H x.1 x.2.1) : xs.length ≤ sizeLine ∧ (a == sysModules) = false ∧ ∃ ys, Paired PR xs ys ∧ s.heap.DictOfH (nestedKind X.prog X.w) a (zsOf ys) := by
  obtain ⟨⟨z, y, ys, q, o, es, ep, e1, e2, e3, e4, e5⟩, _⟩ := (show ObjOk X.prog X.w H s.heap a (dicO a xs) from I.hok a _ e)
  refine ⟨z, y, ys, q, o, es, ep, e1, e2, e3, ?_, fun z hz => ?_, ?_⟩
  · rw [e4]
    unfold zsOf
    rw [List.map_map]
    apply List.map_congr_left
    intro y _
    show _ = entryOfKey (nestedKind X.prog X.w) (kN y.1, y.2.1, y.2.2)
    unfold entryOfKey
    show _ = (⟨(kN y.1).hash X.w, _, _⟩ : DictEntry)
    rw [hash_k]
  · obtain ⟨y, hy, rfl⟩ := List.mem_map.mp hz
    have : ∀ {l : Prs} {m : List (KF × Ad × Value)}, Paired PR l m → (∀ x ∈ l, KeyAt X.K H x.1 x.2.1) → ∀ y ∈ m, KeyAt X.K H y.1 y.2.1 := by
      intro l m q
      induction q with
      | nil => intro _ x hx; exact nomatch hx
      | @cons p q ps qs hq t ih =>
        intro hl x hx
        rcases List.mem_cons.mp hx with e | hx
        · subst e
          rw [← hq.1, ← hq.2.1]
          exact hl p List.mem_cons_self
        · exact ih (fun z hz => hl z (List.mem_cons_of_mem _ hz)) x hx
    exact key_is I (this q hk y hy)
  · have e6 : xs.map (·.1) = ys.map (·.1) := keys_eq q
    unfold zsOf
    rw [List.map_map]
    rw [e6] at e5
    have : ∀ l : List (KF × Ad × Value), (l.map (·.1)).Nodup → (l.map ((·.1) ∘ fun y => (kN y.1, y.2.1, y.2.2))).Nodup := by
      intro l
      induction l with
      | nil => intro _; exact List.nodup_nil
      | cons x l ih =>
        intro h
        rw [List.map_cons, List.nodup_cons] at h ⊢
        refine ⟨fun hm => h.1 ?_, ih h.2⟩
        obtain ⟨z, hz, ez⟩ := List.mem_map.mp hm
        exact List.mem_map.mpr ⟨z, hz, kN_inj ez⟩
    exact this ys e5
theorem valN_at : ∀ {xs : Prs} {ys : List (KF × Ad × Value)}, Paired PR xs ys → RelO (valN xs k) ((atKey (zsOf ys) (kN k)).map (·.2))
  | _, _, .nil => trivial
  | _, _, @Paired.cons _ _ _ p q ps qs hq t => by
    have ih := valN_at t
    unfold valN atKey zsOf at ih ⊢
    rw [List.map_cons, List.find?_cons, List.find?_cons]
    by_cases e : p.1 = k
    · have e2 : kN q.1 = kN k := by rw [← hq.1, e]
      simp only [e, e2, decide_true]
      exact hq.2.2
    · have e2 : ¬ kN q.1 = kN k := fun z => e (by rw [hq.1]; exact kN_inj z)
      simp only [e, e2, decide_false]
      exact ih
theorem pairs_len : ∀ {l : Prs} {m : List (KF × Ad × Value)}, Paired PR l m → l.length = m.length
  | _, _, .nil => rfl
  | _, _, .cons hq t => by rw [List.length_cons, List.length_cons, pairs_len t]
theorem valN_len : (putN xs k b v).length ≤ xs.length + 1 := by
  unfold putN
  split
  · rw [List.length_map]; omega
  · rw [List.length_append]; simp
theorem stored_of {ys : List (KF × Ad × Value)} (q : Paired PR xs ys) (rv : RelV v r) : ∃ zs, Paired PR (putN xs k b v) zs ∧ storedH (zsOf ys) (kN k) b r = zsOf zs := by
  have hs : (valN xs k).isSome = (atKey (zsOf ys) (kN k)).isSome := by
    have := (valN_at (k := k) q).isSome_eq
    rwa [Option.isSome_map] at this
  unfold putN storedH
  rw [← hs]
  clear hs
  cases (valN xs k).isSome with
  | true =>
    rw [if_pos rfl, if_pos rfl]
    refine ⟨ys.map fun y => if y.1 = k then (y.1, y.2.1, r) else y, ?_, ?_⟩
    · induction q with
      | nil => exact .nil
      | @cons p q ps qs hq t ih =>
        rw [List.map_cons, List.map_cons]
        refine .cons ?_ ih
        by_cases e : p.1 = k
        · rw [if_pos e, if_pos (by rw [← hq.1]; exact e)]
          exact ⟨hq.1, hq.2.1, rv⟩
        · rw [if_neg e, if_neg (by rw [← hq.1]; exact e)]
          exact hq
    · unfold zsOf
      rw [List.map_map, List.map_map]
      apply List.map_congr_left
      intro y _
      show putAt (kN k) r (kN y.1, y.2.1, y.2.2) = _
      unfold putAt
      by_cases e : y.1 = k
      · rw [if_pos (by rw [e])]
        dsimp only [Function.comp]
        rw [if_pos e]
      · rw [if_neg (fun z => e (kN_inj z))]
        dsimp only [Function.comp]
        rw [if_neg e]
  | false =>
    rw [if_neg (by decide), if_neg (by decide)]
    refine ⟨ys ++ [(k, b, r)], ?_, by unfold zsOf; rw [List.map_append]; rfl⟩
    induction q with
    | nil => exact .cons ⟨rfl, rfl, rv⟩ .nil
    | cons hq t ih => exact .cons hq ih
theorem dicR_of {h : Heap} {zs : List (KF × Ad × Value)} {P : Program} {w : World} (z : xs.length ≤ sizeLine) (ha : (a == sysModules) = false) (q : Paired PR xs zs) (d : h.DictOfH (nestedKind P w) a (zsOf zs)) : DicR h a xs := by
  obtain ⟨o, es, ep, e1, e2, e3, e4, _, e5⟩ := d
  refine ⟨z, ha, zs, q, o, es, ep, e1, e2, e3, ?_, ?_⟩
  · rw [e4]
    unfold zsOf
    rw [List.map_map]
    apply List.map_congr_left
    intro y _
    show (⟨(kN y.1).hash w, _, _⟩ : DictEntry) = _
    rw [hash_k]
  · rw [keys_eq q]
    unfold zsOf at e5
    rw [List.map_map] at e5
    have : ∀ l : List (KF × Ad × Value), (l.map ((·.1) ∘ fun y => (kN y.1, y.2.1, y.2.2))).Nodup → (l.map (·.1)).Nodup := by
      intro l
      induction l with
      | nil => intro _; exact List.nodup_nil
      | cons x l ih =>
        intro h
        rw [List.map_cons, List.nodup_cons] at h ⊢
        refine ⟨fun hm => h.1 ?_, ih h.2⟩
        obtain ⟨z, hz, ez⟩ := List.mem_map.mp hm
        exact List.mem_map.mpr ⟨z, hz, congrArg kN ez⟩
    exact this zs e5
theorem room8 (hu : A.units + 65 < cLine) : (nestedKind X.prog X.w).room A.in1 := by
  show A.in1.units + 8 < cLine
  show A.units + 1 + 8 < cLine
  omega
def NGet (K : PySem.W.Frag) (H : Hp) (a : Ad) (y : V) (r : Option V) : Prop := ∃ xs k b, H a = some (dicO a xs) ∧ (∀ x ∈ xs, KeyAt K H x.1 x.2.1) ∧ y = .ref b ∧ KeyAt K H k b ∧ r = valN xs k
def NPut (K : PySem.W.Frag) (H : Hp) (a : Ad) (y v : V) (H' : Hp) : Prop := ∃ xs k b, H a = some (dicO a xs) ∧ (∀ x ∈ xs, KeyAt K H x.1 x.2.1) ∧ y = .ref b ∧ KeyAt K H k b ∧ xs.length < sizeLine ∧ H' = upd H a (dicO a (putN xs k b v))
theorem n_getItem {Q : Value → Shared → Prop} (hu : A.units + 65 < cLine) (I : Inv X pins σ H s) (g : NGet X.K H a y (some v)) (ry : RelV y u) (h : ∀ w' s', Inv X pins σ H s' → RelV v w' → Q w' s') :
    wpAny (model X.prog X.w) A (getItem (.ref a) u) Q E s := by
  obtain ⟨xs, k, b, e, hk, rfl, hb, l⟩ := g
  cases (show u = Value.ref b from ry)
  obtain ⟨z, hd, ys, q, dd⟩ := dic_of I e hk
  obtain ⟨w', hw, rw'⟩ := RelO.some_of (v := v) (o := (atKey (zsOf ys) (kN k)).map (·.2)) (by rw [l]; exact valN_at q)
  obtain ⟨p, hp, rfl⟩ := Option.map_eq_some_iff.mp hw
  exact wpAny_getItem_heap (room8 hu) (key_is I hb) dd hp (h _ _ (I.tok _) rw')
theorem n_in {Q : Value → Shared → Prop} {o : Option V} (hu : A.units + 65 < cLine) (I : Inv X pins σ H s) (g : NGet X.K H a y o) (ry : RelV y u) (h : ∀ s', Inv X pins σ H s' → Q (.bool o.isSome) s') :
    wpAny (model X.prog X.w) A (compareOp .In u (.ref a)) Q E s := by
  obtain ⟨xs, k, b, e, hk, rfl, hb, l⟩ := g
  cases (show u = Value.ref b from ry)
  obtain ⟨z, hd, ys, q, dd⟩ := dic_of I e hk
  refine wpAny_in_heap (room8 hu) (key_is I hb) hd dd ?_
  have e2 := (valN_at (k := k) q).isSome_eq
  rw [Option.isSome_map] at e2
  rw [← e2, ← l]
  exact h _ (I.tok _)
theorem n_notIn {Q : Value → Shared → Prop} {o : Option V} (hu : A.units + 65 < cLine) (I : Inv X pins σ H s) (g : NGet X.K H a y o) (ry : RelV y u) (h : ∀ s', Inv X pins σ H s' → Q (.bool (!o.isSome)) s') :
    wpAny (model X.prog X.w) A (compareOp .NotIn u (.ref a)) Q E s := by
  obtain ⟨xs, k, b, e, hk, rfl, hb, l⟩ := g
  cases (show u = Value.ref b from ry)
  obtain ⟨z, hd, ys, q, dd⟩ := dic_of I e hk
  refine wpAny_notIn_heap (room8 hu) (key_is I hb) hd dd ?_
  have e2 := (valN_at (k := k) q).isSome_eq
  rw [Option.isSome_map] at e2
  rw [← e2, ← l]
  exact h _ (I.tok _)
theorem n_get2 {Q : Value → Shared → Prop} {o : Option V} {d : V} (hu : A.units + 65 < cLine) (I : Inv X pins σ H s) (g : NGet X.K H a y o) (ry : RelV y u) (rd : RelV d r) (h : ∀ w' s', Inv X pins σ H s' → RelV (o.getD d) w' → Q w' s') :
    wpAny (model X.prog X.w) A (call (.builtin "dict.get") [.ref a, u, r]) Q E s := by
  obtain ⟨xs, k, b, e, hk, rfl, hb, l⟩ := g
  cases (show u = Value.ref b from ry)
  obtain ⟨z, hd, ys, q, dd⟩ := dic_of I e hk
  refine call_meetsIn PySem.F.slot_dict_get dd.typeIs PySem.F.entry_dict_get (PySem.F.args_dict_get_3 _ _ _) (meetsH_dict_get_default (nestedKind X.prog X.w) a b hd r) ⟨room8 hu, kN k, zsOf ys, key_is I hb, dd, h _ _ (I.tok _) ?_⟩
  rw [l]
  exact (valN_at q).getD rd
theorem n_setItem {H' : Hp} {Q : Unit → Shared → Prop} (hu : A.units + 65 < cLine) (I : Inv X pins σ H s) (g : NPut X.K H a y v H') (ry : RelV y u) (rv : RelV v r) (h : ∀ s', Inv X pins σ H' s' → Q () s') :
    wpAny (model X.prog X.w) A (setItem (.ref a) u r) Q E s := by
  obtain ⟨xs, k, b, e, hk, rfl, hb, l, rfl⟩ := g
  cases (show u = Value.ref b from ry)
  obtain ⟨z, hd, ys, q, dd⟩ := dic_of I e hk
  have hz : (zsOf ys).length ≤ sizeLine := by unfold zsOf; rw [List.length_map, ← pairs_len q]; exact z
  have hl : (putN xs k b v).length ≤ sizeLine := by have := valN_len (xs := xs) (k := k) (b := b) (v := v); omega
  refine wpAny_setItem_heap (hsz := hz) (room8 hu) (key_is I hb) dd fun h' dd' hs => h _ ?_
  obtain ⟨zs, q2, e2⟩ := stored_of (k := k) (b := b) q rv
  rw [e2] at dd'
  have he : ∃ q, h'.get? a = some q := let ⟨q, _, _, hq, _⟩ := dd'; ⟨q, hq⟩
  exact d_write I (by rw [e]; exact True.intro) hs he (dicO_new (dicR_of hl hd q2 dd'))
end
section
variable {X : Cx}
def rInN (K : PySem.W.Frag) (neg : Bool) : R2 := fun x y H Q => ∃ a o, y = .ref a ∧ NGet K H a x o ∧ Q (.bl (neg != o.isSome)) H
theorem op_inN (hu : X.A.units + 65 < cLine) : OpR X (compareOp .In) (rInN X.K false) := by
  intro pins s σ H x y v u Q I rx ry h
  obtain ⟨a, o, rfl, g, q⟩ := h
  cases (show u = Value.ref a from ry)
  refine n_in hu I g rx fun s' I' => ⟨.bl o.isSome, H, I', rfl, ?_⟩
  rw [show (false != o.isSome) = o.isSome by cases o.isSome <;> rfl] at q
  exact q
theorem op_notInN (hu : X.A.units + 65 < cLine) : OpR X (compareOp .NotIn) (rInN X.K true) := by
  intro pins s σ H x y v u Q I rx ry h
  obtain ⟨a, o, rfl, g, q⟩ := h
  cases (show u = Value.ref a from ry)
  refine n_notIn hu I g rx fun s' I' => ⟨.bl (!o.isSome), H, I', rfl, ?_⟩
  rw [show (true != o.isSome) = !o.isSome by cases o.isSome <;> rfl] at q
  exact q
def rItN (K : PySem.W.Frag) : R2 := fun x y H Q => ∃ a v, x = .ref a ∧ NGet K H a y (some v) ∧ Q v H
theorem dict_is {pins : List (Addr × Obj)} {σ : L2.St} {H : Hp} {s : Shared} {a : Ad} {y : V} {o : Option V} (I : Inv X pins σ H s) (g : NGet X.K H a y o) : s.TypeIs (.ref a) "dict" := by
  obtain ⟨xs, k, b, e, hk, _⟩ := g
  obtain ⟨_, _, ys, _, dd⟩ := dic_of I e hk
  exact dd.typeIs
theorem ix_N (hu : X.A.units + 65 < cLine) : IxR X (rItN X.K) := by
  intro value slice pins s σ H x y v u Q I rx ry h hs
  obtain ⟨a, z, rfl, g, q⟩ := h
  cases (show v = Value.ref a from rx)
  exact tail_any (dict_is I g) PySem.F.slot_dict_getitem.lookup (n_getItem hu I g ry fun w' s' I' rw' => ⟨z, H, I', rw', q⟩) hs
theorem PSet.or {r r' : V → V → V → Hp → (Hp → Prop) → Prop} (h : PSet X r) (h' : PSet X r') : PSet X (fun o i v H Q => r o i v H Q ∨ r' o i v H Q) := by
  intro pins s σ H o i v ov iv u Q I ro ri rv q
  rcases q with q | q
  · exact h pins s σ H o i v ov iv u Q I ro ri rv q
  · exact h' pins s σ H o i v ov iv u Q I ro ri rv q
end
end Tw
set_option linter.all false
set_option autoImplicit false
namespace Tw
open PySem (Str PyData)
inductive VV where
  | non | bl (b : Bool) | int (i : Int) | str (x : Str)
  | tup (xs : List VV) | lst (xs : List VV) | scr (xs : List VV) | dct (t : Bool) (kvs : List (VV × VV))
  | obj (c : String) (fs : List (String × VV))
  | exc (c : String) (v : VV)
  | ref (k : Nat)
deriving Inhabited
inductive Ob where
  | lst (xs : List VV) | dct (t : Bool) (kvs : List (VV × VV)) | obj (c : String) (fs : List (Str × VV)) | lck (t : Bool) (kvs : List (VV × VV))
abbrev Hs := List Ob
abbrev Sv := List (Option VV)
inductive Out (α : Type) where
  | ok (a : α) (s : Hs)
  | exc (v : VV) (s : Hs)
  | bad
namespace Out
variable {α β γ : Type}
def bind : Out α → (α → Hs → Out β) → Out β
  | .ok a s, f => f a s
  | .exc v s, _ => .exc v s
  | .bad, _ => .bad
@[simp] theorem bind_ok (a : α) (s : Hs) (f : α → Hs → Out β) : (Out.ok a s).bind f = f a s := rfl
@[simp] theorem bind_exc (v : VV) (s : Hs) (f : α → Hs → Out β) : (Out.exc v s : Out α).bind f = .exc v s := rfl
@[simp] theorem bind_bad (f : α → Hs → Out β) : (Out.bad : Out α).bind f = .bad := rfl
theorem bind_assoc (o : Out α) (f : α → Hs → Out β) (g : β → Hs → Out γ) : (o.bind f).bind g = o.bind fun a s => (f a s).bind g := by
  cases o <;> rfl
theorem bind_eq_ok {o : Out α} {f : α → Hs → Out β} {b : β} {s' : Hs} (h : o.bind f = .ok b s') : ∃ a s, o = .ok a s ∧ f a s = .ok b s' := by
  cases o with
  | ok a s => exact ⟨a, s, rfl, h⟩
  | exc v s => cases h
  | bad => cases h
end Out
def noX {α : Type} : Out α → Out α
  | .ok a s => .ok a s
  | _ => .bad
@[simp] theorem noX_ok {α : Type} (a : α) (s : Hs) : noX (Out.ok a s) = .ok a s := rfl
def lift {α : Type} (o : Option α) (s : Hs) : Out α := match o with
  | some a => .ok a s
  | none => .bad
@[simp] theorem lift_some {α : Type} (a : α) (s : Hs) : lift (some a) s = .ok a s := rfl
@[simp] theorem lift_none {α : Type} (s : Hs) : lift (none : Option α) s = .bad := rfl
theorem lift_eq_ok {α : Type} {o : Option α} {s s' : Hs} {a : α} (h : lift o s = .ok a s') : o = some a ∧ s' = s := by
  cases o with
  | none => cases h
  | some b => cases h; exact ⟨rfl, rfl⟩
def mapO {α β : Type} (f : α → Option β) : List α → Option (List β)
  | [] => some []
  | x :: xs => match f x, mapO f xs with
    | some y, some ys => some (y :: ys)
    | _, _ => none
def szL : Nat := 16777216
inductive Bop | add | sub | mul | fdiv | mod | pow deriving DecidableEq, Repr
inductive Cop | eq | ne | lt | le | gt | ge | isin | notin | is_ | isnot deriving DecidableEq, Repr
inductive Ty | int | bool | str | tuple | list | own (c : String) deriving DecidableEq, Repr
inductive Bi
  | len | abs | sum | all | any | max | min | max2 | min2 | max3 | sorted | sortedSum | sortedSumR | minLen | int | str | repr | tuple | list | dict | dset | lrange | trange | dictOf | isinst (ts : List Ty) | lrangeD
deriving DecidableEq, Repr
inductive Bm | append | extend | pop | popAt | reverse | get | count | index | items | join | split | partition | strip
deriving DecidableEq, Repr
inductive Lit | non | bl (b : Bool) | int (i : Int) | str (x : Str) deriving DecidableEq, Repr
def Lit.vv : Lit → VV
  | .non => .non
  | .bl b => .bl b
  | .int i => .int i
  | .str x => .str x
inductive Tg | var (i : Nat) | tup (ts : List Tg)
mutual
inductive Ex
  | var (i : Nat) | lit (v : Lit)
  | bin (m : Bool) (o : Bop) (a b : Ex) | neg (a : Ex) | no (a : Ex) | conj (es : List Ex) | disj (es : List Ex)
  | cmp (o : Cop) (a b : Ex) | chain (o p : Cop) (a b c : Ex) | chain3 (o p q : Cop) (a b c d : Ex)
  | ite (c a b : Ex)
  | tup (es : List Ex) | lst (m : Bool) (es : List Ex)
  | idx (a i : Ex) | sl (m : Bool) (a lo hi : Ex)
  | call (keep : Bool) (f : String) (es : List Ex)
  | callk (keep : Bool) (f : String) (perm : List Nat) (es : List Ex)
  | bi (m : Bool) (b : Bi) (es : List Ex)
  | bm (b : Bm) (o : Ex) (es : List Ex)
  | comp (m : Bool) (elt : Ex) (tg : Tg) (it : It) (cs : List Ex) (own : List Nat)
  | dcomp (m t : Bool) (kx vx : Ex) (tg : Tg) (it : It) (cs : List Ex) (own : List Nat)
  | scomp (m : Bool) (elt : Ex) (tg : Tg) (it : It) (cs : List Ex) (own : List Nat)
  | dnew (m t : Bool) | dlit (m t : Bool) (es : List Ex) | rev (m : Bool) (a : Ex) | sst (m : Bool) (a : Ex)
  | xmk (c : String) (e : Ex) | fld (e : Ex) (f : Str) | isx (e : Ex) (ts : List Xt)
  | mk (c : String) (id : String) (perm : List Nat) (es : List Ex)
  | meth (keep : Bool) (c : String) (n : Str) (id : String) (perm : List Nat) (o : Ex) (es : List Ex)
  | lock (x e : Ex)
  | comp2 (m : Bool) (elt : Ex) (tg : Tg) (it : It) (cs : List Ex) (tg2 : Tg) (it2 : It) (cs2 : List Ex) (vs2 : List Nat) (own : List Nat)
inductive It
  | pl (e : Ex) | range (es : List Ex) | zip (a b : Ex) | enum (a : Ex) | dkeys (e : Ex) | ditems (e : Ex) | dkeyi (e : Ex)
end
inductive Stm
  | asg (t : Tg) (e : Ex) | sub (o i e : Ex) | aug (i : Nat) (o : Bop) (e : Ex)
  | expr (e : Ex) | ret (e : Ex)
  | ife (c : Ex) (a b : List Stm) | whl (c : Ex) (b : List Stm) | forr (t : Tg) (it : It) (b : List Stm)
  | sub2 (o i p j e : Ex)
  | setf (o : Ex) (f : Str) (e : Ex) | augs (o i : Ex) (op : Bop) (e : Ex) | lockS (x : Ex) (b : Stm)
  | rai (c : String) (e : Ex) | tryk (b : List Stm) (cs : List String) (i j : Nat) | tryn (b : List Stm) (c : String) (j : Nat)
  | brk | cnt | pss | never
structure Fn where
  ar : Nat
  nl : Nat
  body : List Stm
def kid (s : Hs) (k : Nat) : Option (List VV) := match s[k]? with
  | some (.lst xs) => some xs
  | _ => none
def seqOf (s : Hs) : VV → Option (List VV)
  | .tup xs => some xs
  | .lst xs => some xs
  | .ref k => kid s k
  | _ => none
abbrev Src := List VV × List (Nat × List VV)
def guardOf : VV → List VV → List (Nat × List VV)
  | .ref k, xs => [(k, xs)]
  | _, _ => []
def srcOf (s : Hs) (v : VV) : Option Src := (seqOf s v).map fun xs => (xs, guardOf v xs)
mutual
def vbeq : VV → VV → Bool
  | .non, .non => true
  | .bl a, .bl b => a == b
  | .int a, .int b => a == b
  | .str a, .str b => a == b
  | .tup xs, .tup ys => vbeqs xs ys
  | .lst xs, .lst ys => vbeqs xs ys
  | .scr xs, .scr ys => vbeqs xs ys
  | .dct a xs, .dct b ys => a == b && vbeqp xs ys
  | .ref a, .ref b => a == b
  | _, _ => false
def vbeqs : List VV → List VV → Bool
  | [], [] => true
  | x :: xs, y :: ys => vbeq x y && vbeqs xs ys
  | _, _ => false
def vbeqp : List (VV × VV) → List (VV × VV) → Bool
  | [], [] => true
  | x :: xs, y :: ys => vbeqq x y && vbeqp xs ys
  | _, _ => false
def vbeqq : VV × VV → VV × VV → Bool
  | (a, b), (c, d) => vbeq a c && vbeq b d
end
mutual
theorem vbeq_eq : ∀ x y : VV, vbeq x y = true → x = y
  | .non, y, h => by cases y <;> simp_all [vbeq]
  | .bl a, y, h => by cases y <;> simp_all [vbeq]
  | .int a, y, h => by cases y <;> simp_all [vbeq]
  | .str a, y, h => by cases y <;> simp_all [vbeq]
  | .tup xs, y, h => by
    cases y with
    | tup ys => rw [vbeqs_eq xs ys (by simpa [vbeq] using h)]
    | _ => simp [vbeq] at h
  | .lst xs, y, h => by
    cases y with
    | lst ys => rw [vbeqs_eq xs ys (by simpa [vbeq] using h)]
    | _ => simp [vbeq] at h
  | .scr xs, y, h => by
    cases y with
    | scr ys => rw [vbeqs_eq xs ys (by simpa [vbeq] using h)]
    | _ => simp [vbeq] at h
  | .dct a xs, y, h => by
    cases y with
    | dct b ys =>
      simp only [vbeq, Bool.and_eq_true, beq_iff_eq] at h
      rw [h.1, vbeqp_eq xs ys h.2]
    | _ => simp [vbeq] at h
  | .obj _ _, y, h => by simp [vbeq] at h
  | .exc _ _, y, h => by simp [vbeq] at h
  | .ref a, y, h => by cases y <;> simp_all [vbeq]
theorem vbeqs_eq : ∀ x y : List VV, vbeqs x y = true → x = y
  | [], y, h => by cases y <;> simp_all [vbeqs]
  | x :: xs, y, h => by
    cases y with
    | nil => simp [vbeqs] at h
    | cons y ys =>
      simp only [vbeqs, Bool.and_eq_true] at h
      rw [vbeq_eq x y h.1, vbeqs_eq xs ys h.2]
theorem vbeqp_eq : ∀ x y : List (VV × VV), vbeqp x y = true → x = y
  | [], y, h => by cases y <;> simp_all [vbeqp]
  | x :: xs, y, h => by
    cases y with
    | nil => simp [vbeqp] at h
    | cons y ys =>
      simp only [vbeqp, Bool.and_eq_true] at h
      rw [vbeqq_eq x y h.1, vbeqp_eq xs ys h.2]
theorem vbeqq_eq : ∀ x y : VV × VV, vbeqq x y = true → x = y
  | (a, b), (c, d), h => by
    simp only [vbeqq, Bool.and_eq_true] at h
    rw [vbeq_eq a c h.1, vbeq_eq b d h.2]
end
def gokB (s : Hs) (g : List (Nat × List VV)) : Bool := g.all fun p => match s[p.1]? with
  | some (.lst ys) => vbeqs ys p.2
  | _ => false
@[simp] theorem gokB_nil (s : Hs) : gokB s [] = true := rfl
theorem gokB_mem {s : Hs} {g : List (Nat × List VV)} (h : gokB s g = true) {k : Nat} {xs : List VV} (m : (k, xs) ∈ g) : s[k]? = some (.lst xs) := by
  have := List.all_eq_true.mp h _ m
  simp only at this
  split at this
  · rename_i ys e
    rw [e, vbeqs_eq _ _ this]
  · cases this
def toD : Nat → Hs → VV → Option PyData
  | _, _, .non => some .none
  | _, _, .bl b => some (.bool b)
  | _, _, .int i => some (.int i)
  | _, _, .str x => if PySem.PyData.strOk x then some (.str x) else none
  | n + 1, s, .tup xs => (mapO (toD n s) xs).map .tuple
  | n + 1, s, .lst xs => (mapO (toD n s) xs).map .list
  | n + 1, s, .ref k => match kid s k with
    | some xs => (mapO (toD n s) xs).map .list
    | none => none
  | _, _, _ => none
def dpt : Nat := 12
def eqV (s : Hs) (x y : VV) : Option Bool := match toD dpt s x, toD dpt s y with
  | some d, some e => some (PyData.eqv d e)
  | _, _ => none
def eqX (s : Hs) (x y : VV) : Option Bool := match x, y with
  | .str a, .str b => some (decide (a = b))
  | x, y => eqV s x y
inductive DKey | i (n : Int) | t (k : List (Option Int)) deriving DecidableEq
def kF1 : VV → Option (Option Int)
  | .non => some none
  | .int i => some (some i)
  | _ => none
def keyD : VV → Option DKey
  | .int i => some (.i i)
  | .tup xs => (mapO kF1 xs).map .t
  | _ => none
def DKey.tu : DKey → Bool
  | .i _ => false
  | .t _ => true
def dctOf (s : Hs) : VV → Option (Bool × List (VV × VV))
  | .dct t kvs => some (t, kvs)
  | .ref k => match s[k]? with
    | some (.dct t kvs) => some (t, kvs)
    | _ => none
  | _ => none
def lookD (kvs : List (VV × VV)) (k : DKey) : Option VV := (kvs.find? fun p => decide (keyD p.1 = some k)).map (·.2)
def putD (kvs : List (VV × VV)) (k : VV) (d : DKey) (v : VV) : List (VV × VV) := if (lookD kvs d).isSome then kvs.map (fun p => if keyD p.1 = some d then (p.1, v) else p) else kvs ++ [(k, v)]
def getDV (s : Hs) (x y : VV) : Option (Option VV) := match dctOf s x, keyD y with
  | some (t, kvs), some k => if k.tu = t then some (lookD kvs k) else none
  | _, _ => none
def putAll (t : Bool) : List VV → List (VV × VV) → Option (List (VV × VV))
  | [], acc => some acc
  | .tup [k, v] :: r, acc => match keyD k with
    | some d => if d.tu = t ∧ acc.length < szL then putAll t r (putD acc k d v) else none
    | none => none
  | _, _ => none
def pairUp : List VV → Option (List VV)
  | [] => some []
  | k :: v :: r => (pairUp r).map fun ps => .tup [k, v] :: ps
  | _ => none
def hashV : VV → Int
  | .tup xs => match mapO kF1 xs with
    | some k => hash0 k
    | none => 0
  | _ => 0
def apartB (kvs : List (VV × VV)) : Bool := decide (kvs.map fun p => hashV p.1).Nodup
def mkD (m t : Bool) (kvs : List (VV × VV)) (s : Hs) : Out VV := if m then .ok (.ref s.length) (s ++ [.dct t kvs]) else .ok (.dct t kvs) s
def trV (s : Hs) : VV → Option Bool
  | .non => some false
  | .bl b => some b
  | .int i => some (i != 0)
  | .str x => if x.length ≤ szL then some (x.length != 0) else none
  | .tup xs => some (!xs.isEmpty)
  | .lst xs => some (!xs.isEmpty)
  | .ref k => (kid s k).map fun xs => !xs.isEmpty
  | _ => none
def intOf : VV → Option Int
  | .int i => some i
  | _ => none
def blOf : VV → Option Bool
  | .bl b => some b
  | _ => none
def natIx (n : Nat) (i : Int) : Option Nat := if 0 ≤ i then (if i < n then some i.toNat else none) else if -(n : Int) ≤ i then some (i + n).toNat else none
def atV (xs : List VV) (i : Int) : Option VV := (natIx xs.length i).bind fun j => xs[j]?
def ixB (n d : Nat) : Option Int → Nat
  | none => d
  | some v => if v < 0 then (v + (n : Int)).toNat else min v.toNat n
def cut (xs : List VV) (lo hi : Option Int) : List VV := (xs.drop (ixB xs.length 0 lo)).take (ixB xs.length xs.length hi - ixB xs.length 0 lo)
def lexLt : List Int → List Int → Bool
  | [], [] => false
  | [], _ :: _ => true
  | _ :: _, [] => false
  | x :: xs, y :: ys => if x = y then lexLt xs ys else decide (x < y)
def mkL (m : Bool) (xs : List VV) (s : Hs) : Out VV := if xs.length ≤ szL then (if m then .ok (.ref s.length) (s ++ [.lst xs]) else .ok (.lst xs) s) else .bad
def mkT (xs : List VV) (s : Hs) : Out VV := if xs.length ≤ szL then .ok (.tup xs) s else .bad
def small (i : Int) : Bool := decide (-(2 ^ 64) < i ∧ i < 2 ^ 64)
def arith (o : Bop) (a b : Int) : Option Int := match o with
  | .add => some (a + b)
  | .sub => some (a - b)
  | .mul => if small a || small b then some (a * b) else none
  | .fdiv => if 0 < b ∧ b < 2 ^ 64 then some (a / b) else none
  | .mod => if 0 < b then some (a % b) else none
  | .pow => if 0 ≤ b ∧ b ≤ 1000 ∧ a.natAbs < 2 ^ 64 then some (a ^ b.toNat) else none
def binV (o : Bop) (x y : VV) (s : Hs) : Out VV := match x, y with
  | .int a, .int b => lift ((arith o a b).map VV.int) s
  | .tup xs, .tup ys => if o = .add then mkT (xs ++ ys) s else .bad
  | _, _ => .bad
def binL (m : Bool) (o : Bop) (x y : VV) (s : Hs) : Out VV := match o, y with
  | .mul, .int k => match x with
    | .tup xs => if xs.isEmpty then .bad else if k = 1 then .ok (.tup xs) s else if -(2 ^ 62) < k ∧ k ≤ 0 then mkT [] s else if 2 ≤ k ∧ k ≤ 1000 ∧ xs.length ≤ 1000 then mkT (List.replicate k.toNat xs).flatten s else .bad
    | _ => match seqOf s x with
      | some xs => if -(2 ^ 62) < k ∧ k < 2 ^ 62 ∧ xs.length * k.toNat ≤ szL then mkL m (List.replicate k.toNat xs).flatten s else .bad
      | none => .bad
  | .add, _ => match x, y with
    | .tup _, _ => .bad
    | _, .tup _ => .bad
    | _, _ => match seqOf s x, seqOf s y with
      | some xs, some ys => mkL m (xs ++ ys) s
      | _, _ => .bad
  | _, _ => .bad
def catS (o : Bop) (a b : Str) (s : Hs) : Out VV := if o = .add ∧ a.length + b.length ≤ szL then .ok (.str (a ++ b)) s else .bad
def binG (m : Bool) (o : Bop) (x y : VV) (s : Hs) : Out VV := match x, y with
  | .int _, .int _ => binV o x y s
  | .tup _, .tup _ => binV o x y s
  | .str a, .str b => catS o a b s
  | _, _ => binL m o x y s
def intsOf : List VV → Option (List Int) := mapO intOf
def ltV (s : Hs) : VV → VV → Option Bool
  | .int a, .int b => some (decide (a < b))
  | .tup xs, .tup ys => match intsOf xs, intsOf ys with
    | some ns, some ms => some (lexLt ns ms)
    | _, _ => none
  | .lst xs, .lst ys => match intsOf xs, intsOf ys with
    | some ns, some ms => some (lexLt ns ms)
    | _, _ => none
  | _, _ => none
def inS (x y : VV) : Option Bool := match x, y with
  | .str a, .str z => if a.cps.size = 1 then some (decide (a.cps.getD 0 0 ∈ z.cps.toList)) else none
  | _, _ => none
def inV (s : Hs) (x y : VV) : Option Bool := match seqOf s y with
  | some ys => match toD dpt s x, mapO (toD (dpt - 1) s) ys with
    | some d, some ds => some (ds.any fun z => PyData.eqv z d)
    | _, _ => none
  | none => match (getDV s y x).map (·.isSome) with
    | some b => some b
    | none => inS x y
def isV (x y : VV) : Option Bool := match x, y with
  | .bl a, .bl b => some (decide (a = b))
  | .non, .non => some true
  | _, .non => some false
  | _, _ => none
def cmpV (s : Hs) (o : Cop) (x y : VV) : Option Bool := match o with
  | .eq => eqX s x y
  | .ne => (eqX s x y).map fun b => !b
  | .lt => ltV s x y
  | .gt => match x, y with
    | .int a, .int b => some (decide (b < a))
    | _, _ => none
  | .le => match x, y with
    | .int a, .int b => some (decide (a ≤ b))
    | _, _ => none
  | .ge => match x, y with
    | .int a, .int b => some (decide (b ≤ a))
    | _, _ => none
  | .isin => inV s x y
  | .notin => (inV s x y).map fun b => !b
  | .is_ => isV x y
  | .isnot => (isV x y).map fun b => !b
def isTy (s : Hs) (v : VV) : Ty → Bool
  | .int => match v with
    | .int _ => true
    | .bl _ => true
    | _ => false
  | .bool => match v with
    | .bl _ => true
    | _ => false
  | .str => match v with
    | .str _ => true
    | _ => false
  | .tuple => match v with
    | .tup _ => true
    | _ => false
  | .list => match v with
    | .lst _ => true
    | .ref k => (kid s k).isSome
    | _ => false
  | .own c => match v with
    | .exc d _ => c == d
    | .obj d _ => c == d
    | _ => false
def vTy (s : Hs) : VV → Option String
  | .non => some "NoneType"
  | .bl _ => some "bool"
  | .int _ => some "int"
  | .str _ => some "str"
  | .tup _ => some "tuple"
  | .lst _ => some "list"
  | .ref k => if (kid s k).isSome then some "list" else none
  | _ => none
def insI (x : Int) : List Int → List Int
  | [] => [x]
  | y :: ys => if x ≤ y then x :: y :: ys else y :: insI x ys
def sortI : List Int → List Int
  | [] => []
  | x :: xs => insI x (sortI xs)
def insS (x : Int) : List Int → List Int
  | [] => [x]
  | y :: ys => if x < y then x :: y :: ys else if x = y then y :: ys else y :: insS x ys
def sortS : List Int → List Int
  | [] => []
  | x :: xs => insS x (sortS xs)
def maxI : List Int → Option Int
  | [] => none
  | x :: xs => some (xs.foldl (fun a b => if b > a then b else a) x)
def minI : List Int → Option Int
  | [] => none
  | x :: xs => some (xs.foldl (fun a b => if b < a then b else a) x)
def lstOf (s : Hs) : VV → Option (List VV)
  | .lst xs => some xs
  | .ref k => kid s k
  | _ => none
def seqInts (s : Hs) (v : VV) : Option (List Int) := (lstOf s v).bind intsOf
def seqBls (s : Hs) (v : VV) : Option (List Bool) := (lstOf s v).bind (mapO blOf)
def wgt : PyData → Nat
  | .none => 1
  | .bool _ => 1
  | .int i => if i.natAbs < 10 ^ 35 then 1 else 1000000
  | .str x => 1 + x.length
  | .list xs => 1 + wgts xs
  | .tuple xs => 1 + wgts xs
  | .dict _ => 1000000
where wgts : List PyData → Nat
  | [] => 0
  | x :: xs => wgt x + wgts xs
def reprV (s : Hs) (v : VV) : Option Str := match toD dpt s v with
  | some d => if wgt d ≤ 400000 then some d.shown else none
  | none => none
def gRange (vs : List VV) (s : Hs) : Out Src := match vs with
  | [.int n] => if -(2 ^ 62) ≤ n ∧ n < 2 ^ 62 then .ok ((List.range n.toNat).map fun (i : Nat) => VV.int i, []) s else .bad
  | [.int a, .int b] => if -(2 ^ 62) ≤ a ∧ a < 2 ^ 62 ∧ -(2 ^ 62) ≤ b ∧ b < 2 ^ 62 then .ok ((List.range (b - a).toNat).map fun (i : Nat) => VV.int (a + i), []) s else .bad
  | [.int a, .int b, .int c] => if c = -1 ∧ -(2 ^ 62) ≤ a ∧ a < 2 ^ 62 ∧ -(2 ^ 62) ≤ b ∧ b < 2 ^ 62 then .ok ((List.range (a - b).toNat).map fun (i : Nat) => VV.int (a - i), []) s else .bad
  | _ => .bad
def isTup1 : PyData → Bool
  | .tuple (_ :: _) => true
  | _ => false
def isOth : PyData → Bool
  | .none => false
  | .tuple _ => false
  | _ => true
def okSort (ds : List PyData) : Bool := decide (ds.length ≤ 1) || ((ds.all fun d => ds.all fun e => PySem.W.alike d e) && (ds.all isTup1 || ds.all isOth))
def sortDL (xs : List VV) (ds : List PyData) : List VV := ((xs.zip ds).mergeSort (PySem.W.dataLe false Prod.snd)).map Prod.fst
def kInts : VV → Option (List Int)
  | .tup xs => intsOf xs
  | _ => none
def sortKL (ys : List VV) (ks : List (List Int)) : List VV := ((ys.zip ks).mergeSort fun a b => decide (a.2 ≤ b.2)).map Prod.fst
def sortK (m : Bool) (ys : List VV) (s : Hs) : Out VV := match mapO kInts ys with
  | some ks => if ks.all (fun ns => !ns.isEmpty) then mkL m (sortKL ys ks) s else .bad
  | none => .bad
def sortDV (m : Bool) (v : VV) (s : Hs) : Out VV := match lstOf s v with
  | some xs => match mapO (toD dpt s) xs with
    | some ds => if okSort ds then mkL m (sortDL xs ds) s else .bad
    | none => .bad
  | none => match dctOf s v with
    | some (true, kvs) => sortK m (kvs.map (·.1)) s
    | _ => .bad
def minGo (s : Hs) : VV → Nat → List VV → Option VV
  | b, _, [] => some b
  | b, n, x :: xs => match lstOf s x with
    | some ys => if ys.length < n then minGo s x ys.length xs else minGo s b n xs
    | none => none
def minBy (s : Hs) : List VV → Option VV
  | [] => none
  | x :: xs => match lstOf s x with
    | some ys => minGo s x ys.length xs
    | none => none
def tupSum : VV → Option Int
  | .tup xs => (intsOf xs).map List.sum
  | _ => none
def byLe (rev : Bool) (a b : Int) : Bool := if rev then decide (b ≤ a) else decide (a ≤ b)
def sortByV (rev : Bool) (xs : List VV) (ks : List Int) : List VV := ((xs.zip ks).mergeSort fun a b => byLe rev a.2 b.2).map Prod.fst
def sortSumV (rev m : Bool) (v : VV) (s : Hs) : Out VV := match lstOf s v with
  | some xs => match mapO tupSum xs with
    | some ks => mkL m (sortByV rev xs ks) s
    | none => .bad
  | none => match dctOf s v with
    | some (true, kvs) => match mapO tupSum (kvs.map (·.1)) with
      | some ks => mkL m (sortByV rev (kvs.map (·.1)) ks) s
      | none => .bad
    | _ => .bad
def biV (m : Bool) (b : Bi) (vs : List VV) (s : Hs) : Out VV := match b, vs with
  | .len, [v] => match v with
    | .str x => if x.length ≤ szL then .ok (.int x.length) s else .bad
    | _ => match seqOf s v with
      | some xs => .ok (.int xs.length) s
      | none => match dctOf s v with
        | some (_, kvs) => .ok (.int kvs.length) s
        | none => .bad
  | .abs, [.int i] => .ok (.int (if i < 0 then -i else i)) s
  | .sum, [.tup xs] => lift ((intsOf xs).map fun ns => .int ns.sum) s
  | .sum, [v] => lift ((seqInts s v).map fun ns => .int ns.sum) s
  | .all, [v] => lift ((seqBls s v).map fun bs => .bl (bs.all id)) s
  | .any, [v] => lift ((seqBls s v).map fun bs => .bl (bs.any id)) s
  | .max, [.tup xs] => lift (((intsOf xs).bind maxI).map .int) s
  | .min, [.tup xs] => lift (((intsOf xs).bind minI).map .int) s
  | .max, [v] => lift (((seqInts s v).bind maxI).map .int) s
  | .min, [v] => lift (((seqInts s v).bind minI).map .int) s
  | .max2, [.int i, .int j] => .ok (.int (if j > i then j else i)) s
  | .max3, [.int i, .int j, .int k] => .ok (.int (if (if i < j then j else i) < k then k else (if i < j then j else i))) s
  | .min2, [.int i, .int j] => .ok (.int (if j < i then j else i)) s
  | .sorted, [.tup xs] => match intsOf xs with
    | some ns => mkL m ((sortI ns).map .int) s
    | none => .bad
  | .sorted, [v] => match seqInts s v with
    | some ns => mkL m ((sortI ns).map .int) s
    | none => sortDV m v s
  | .lrange, vs => (gRange vs s).bind fun r s => mkL m r.1 s
  | .trange, vs => (gRange vs s).bind fun r s => mkT r.1 s
  | .dictOf, [v] => match dctOf s v with
    | some (t, kvs) => if t = false ∨ apartB kvs = true then mkD m t kvs s else .bad
    | none => (match lstOf s v with
      | some ps => (lift (putAll true ps []) s).bind fun kvs s => mkD m true kvs s
      | none => .bad)
  | .sortedSum, [v] => sortSumV false m v s
  | .sortedSumR, [v] => sortSumV true m v s
  | .lrangeD, [.int i, .int j, .int c] => if c = -1 ∧ -(2 ^ 62) ≤ i ∧ i < 2 ^ 62 ∧ -(2 ^ 62) ≤ j ∧ j < 2 ^ 62 then mkL m ((List.range (i - j).toNat).map fun (k : Nat) => .int (i - k)) s else .bad
  | .minLen, [v] => lift ((lstOf s v).bind fun xs => minBy s xs) s
  | .int, [.int i] => .ok (.int i) s
  | .int, [.bl k] => .ok (.int (if k then 1 else 0)) s
  | .int, [.str a] => match PySem.intText? a with
    | some n => if a.length ≤ 640 then .ok (.int n) s else .bad
    | none => .bad
  | .str, [.int i] => if i.natAbs < 10 ^ 100 then .ok (.str (toString i)) s else .bad
  | .repr, [v] => lift ((reprV s v).map .str) s
  | .tuple, [v] => match seqOf s v with
    | some xs => mkT xs s
    | none => .bad
  | .list, [v] => match seqOf s v with
    | some xs => mkL m xs s
    | none => match dctOf s v with
      | some (_, kvs) => mkL m (kvs.map (·.1)) s
      | none => .bad
  | .isinst ts, [v] => match vTy s v with
    | some _ => .ok (.bl (ts.any (isTy s v))) s
    | none => .bad
  | _, _ => .bad
def bmTy (b : Bm) (v : VV) (s : Hs) : Option Unit := match b with
  | .append | .extend | .pop | .popAt | .reverse | .count | .index => (lstOf s v).map fun _ => ()
  | .join | .split | .partition | .strip => match v with
    | .str _ => some ()
    | _ => none
  | .get => (dctOf s v).map fun _ => ()
  | _ => none
def strOf : VV → Option Str
  | .str a => some a
  | _ => none
def bmV (b : Bm) (v : VV) (vs : List VV) (s : Hs) : Out VV := match b, v, vs with
  | .append, .ref k, [x] => match kid s k with
    | some xs => if xs.length < szL then .ok .non (s.set k (.lst (xs ++ [x]))) else .bad
    | none => .bad
  | .extend, .ref k, [x] => match kid s k, lstOf s x with
    | some xs, some ys => if xs.length + ys.length ≤ szL then .ok .non (s.set k (.lst (xs ++ ys))) else .bad
    | _, _ => .bad
  | .pop, .ref k, [] => match kid s k with
    | some xs => match xs[xs.length - 1]? with
      | some y => .ok y (s.set k (.lst xs.dropLast))
      | none => .bad
    | none => .bad
  | .reverse, .ref k, [] => match kid s k with
    | some xs => .ok .non (s.set k (.lst xs.reverse))
    | none => .bad
  | .join, .str a, [x] => match (seqOf s x).bind (mapO strOf) with
    | some ys => if (ys.map (·.length)).sum + ys.length * a.length ≤ szL then .ok (.str (PySem.Txt.join a ys)) s else .bad
    | none => .bad
  | .split, .str a, [.str b] => if b.length ≠ 0 ∧ a.length + 2 ≤ szL then mkL false ((PySem.Txt.split a b).map .str) s else .bad
  | .partition, .str a, [.str b] => if b.length ≠ 0 ∧ a.length ≤ szL then .ok (.tup [.str (PySem.Txt.partition a b).1, .str (PySem.Txt.partition a b).2.1, .str (PySem.Txt.partition a b).2.2]) s else .bad
  | .strip, .str a, [.str b] => if a.length ≤ szL then .ok (.str (PySem.Txt.stripChars a b)) s else .bad
  | .popAt, .ref k, [.int i] => match kid s k with
    | some xs => match (if 0 ≤ i ∧ i < 2 ^ 62 then xs[i.toNat]? else none) with
      | some y => .ok y (s.set k (.lst (xs.eraseIdx i.toNat)))
      | none => .bad
    | none => .bad
  | .get, v, [k, x] => match getDV s v k with
    | some o => .ok (o.getD x) s
    | none => .bad
  | .index, v, [.int k] => match seqInts s v with
    | some ns => if k ∈ ns then .ok (.int (ns.idxOf k : Nat)) s else .bad
    | none => .bad
  | .count, v, [.int k] => lift ((seqInts s v).map fun ns => .int (ns.count k : Nat)) s
  | .count, v, [.bl k] => lift ((seqBls s v).map fun bs => .int (bs.count k : Nat)) s
  | _, _, _ => .bad
def setD (s : Hs) (k : Nat) (i v : VV) : Out Unit := match s[k]?, keyD i with
  | some (.dct t kvs), some d => if d.tu = t ∧ kvs.length < szL then .ok () (s.set k (.dct t (putD kvs i d v))) else .bad
  | _, _ => .bad
def setAt (s : Hs) (o i v : VV) : Out Unit := match o, i with
  | .ref k, .int j => match kid s k with
    | some xs => match natIx xs.length j with
      | some n => .ok () (s.set k (.lst (xs.set n v)))
      | none => .bad
    | none => setD s k i v
  | .ref k, .tup _ => setD s k i v
  | _, _ => .bad
def setK (s : Hs) (x i v : VV) : Out Unit := match x with
  | .ref k => setD s k i v
  | _ => .bad
def atS (x y : VV) : Option VV := match x, y with
  | .str z, .int i => if z.length ≤ szL then (L2.atI z.cps.toList i).map fun c => .str ⟨#[c]⟩ else none
  | _, _ => none
def getLI (s : Hs) (x y : VV) : Option VV := match x with
  | .ref k => match s[k]? with
    | some (.lck false kvs) => (match y with
      | .int i => lookD kvs (.i i)
      | _ => none)
    | _ => none
  | _ => none
def gIdx (x y : VV) (s : Hs) : Out VV := match seqOf s x with
  | some xs => (match intOf y with
    | some j => lift (atV xs j) s
    | none => .bad)
  | none => (match getDV s x y with
    | some o => lift o s
    | none => lift ((atS x y).or (getLI s x y)) s)
def gSl (m : Bool) (x : VV) (l u : Option Int) (s : Hs) : Out VV := match x with
  | .tup xs => .ok (.tup (cut xs l u)) s
  | .scr xs => mkL m (cut xs l u) s
  | .str z => if z.length ≤ szL then .ok (.str (L2.cutS z l u)) s else .bad
  | .lst xs => mkL m (cut xs l u) s
  | .ref k => match kid s k with
    | some xs => mkL m (cut xs l u) s
    | none => .bad
  | _ => .bad
def gSst (m : Bool) (x : VV) (s : Hs) : Out VV := match x with
  | .tup xs => (match intsOf xs with
    | some ns => if ns.length < 64 then mkL m ((sortS ns).map .int) s else .bad
    | none => .bad)
  | x => (match seqInts s x with
    | some ns => if ns.length < 64 then mkL m ((sortS ns).map .int) s else .bad
    | none => .bad)
def gRev (m : Bool) (x : VV) (s : Hs) : Out VV := match lstOf s x with
  | some xs => mkL m xs.reverse s
  | none => .bad
def gCmp (o : Cop) (x y : VV) (s : Hs) : Out VV := lift ((cmpV s o x y).map VV.bl) s
def gNeg (x : VV) (s : Hs) : Out VV := lift ((intOf x).map fun i => .int (-i)) s
def clsTab : List (String × List Str) := [("Hanging", ["boats", "left", "free", "crews"]), ("Rows", ["own_fleet", "own_goal", "own_start", "few", "ways"]), ("Haven", ["own_stands", "own_words", "own_log"])]
def cFlds (c : String) : List Str := ((clsTab.find? fun p => decide (p.1 = c)).map (·.2)).getD []
def putFV (f : Str) (v : VV) : List (Str × VV) → List (Str × VV)
  | [] => [(f, v)]
  | (g, x) :: r => if g = f then (g, v) :: r else (g, x) :: putFV f v r
def gFld (f : Str) (x : VV) (s : Hs) : Out VV := match x with
  | .exc c v => if xF c = f then .ok v s else .bad
  | .ref k => match s[k]? with
    | some (.obj c fs) => if (cFlds c).contains f then lift (fs.lookup f) s else .bad
    | _ => .bad
  | _ => .bad
def setFld (f : Str) (x v : VV) (s : Hs) : Out Unit := match x with
  | .ref k => match s[k]? with
    | some (.obj c fs) => if (cFlds c).contains f ∧ fs.length < 900 then .ok () (s.set k (.obj c (putFV f v fs))) else .bad
    | _ => .bad
  | _ => .bad
def isObj (c : String) (n : Str) (x : VV) (s : Hs) : Option Unit := match x with
  | .ref k => match s[k]? with
    | some (.obj d fs) => if d = c ∧ fs.lookup n = none then some () else none
    | _ => none
  | _ => none
def madeV (k : Nat) (x : VV) (s : Hs) : Out VV := match x with
  | .non => .ok (.ref k) s
  | _ => .bad
def pureV : Ex → Sv → Hs → Option VV
  | .var i, σ, _ => match σ[i]? with
    | some (some v) => some v
    | _ => none
  | .fld (.var i) f, σ, s => match σ[i]? with
    | some (some (.ref k)) => match s[k]? with
      | some (.obj _ fs) => fs.lookup f
      | _ => none
    | _ => none
  | _, _, _ => none
def lckV (x : Ex) (σ : Sv) (s : Hs) : Option (Nat × Bool × List (VV × VV)) := match pureV x σ s with
  | some (.ref k) => match s[k]? with
    | some (.dct t kvs) => some (k, t, kvs)
    | _ => none
  | _ => none
def lckOf (s : Hs) : VV → Option (List (VV × VV))
  | .ref k => match s[k]? with
    | some (.lck true kvs) => some kvs
    | _ => none
  | _ => none
def lckI (s : Hs) : VV → Option (List (VV × VV))
  | .ref k => match s[k]? with
    | some (.lck false kvs) => some kvs
    | _ => none
  | _ => none
def isxV (ts : List Xt) : VV → Option Bool
  | .exc c _ => some (ts.any (subX c))
  | .non => some false
  | _ => none
def bndOf : Ex → VV → Option (Option Int)
  | .lit .non, _ => some none
  | _, v => (intOf v).map some
mutual
def asg : Tg → VV → Sv → Option Sv
  | .var i, v, σ => some (σ.set i (some v))
  | .tup ts, v, σ => match v with
    | .tup xs => asgs ts xs σ
    | .lst xs => asgs ts xs σ
    | _ => none
def asgs : List Tg → List VV → Sv → Option Sv
  | [], [], σ => some σ
  | t :: ts, v :: vs, σ => match asg t v σ with
    | some σ' => asgs ts vs σ'
    | none => none
  | _, _, _ => none
end
def wip (σ : Sv) : List Nat → Sv
  | [] => σ
  | v :: vs => (wip σ vs).set v none
def enumV (xs : List VV) : List VV := xs.mapIdx fun i v => .tup [.int i, v]
def zipV (xs ys : List VV) : List VV := (xs.zip ys).map fun p => .tup [p.1, p.2]
def isTup : VV → Bool
  | .tup _ => true
  | _ => false
def gZip (x y : VV) (s : Hs) : Out Src := if isTup x == isTup y || isTup x then (match srcOf s x, srcOf s y with
    | some r, some q => .ok (zipV r.1 q.1, r.2 ++ q.2) s
    | _, _ => .bad) else .bad
def gEnum (x : VV) (s : Hs) : Out Src := lift ((srcOf s x).map fun r => (enumV r.1, r.2)) s
def compL (g : List (Nat × List VV)) (step : VV → Hs → Out (Option VV)) : List VV → Hs → Out (List VV)
  | [], s => if gokB s g then .ok [] s else .bad
  | x :: xs, s => if gokB s g then (step x s).bind fun o s => (compL g step xs s).bind fun r s => .ok (o.toList ++ r) s else .bad
def compLL (g : List (Nat × List VV)) (step : VV → Hs → Out (List VV)) : List VV → Hs → Out (List VV)
  | [], s => if gokB s g then .ok [] s else .bad
  | x :: xs, s => if gokB s g then (step x s).bind fun o s => (compLL g step xs s).bind fun r s => .ok (o ++ r) s else .bad
abbrev Cl := Bool → String → List VV → Hs → Out VV
mutual
def ev (cl : Cl) : Ex → Sv → Hs → Out VV
  | .var i, σ, s => match σ[i]? with
    | some (some v) => .ok v s
    | _ => .bad
  | .lit v, _, s => .ok v.vv s
  | .bin m o a b, σ, s => (ev cl a σ s).bind fun x s => (ev cl b σ s).bind fun y s => binG m o x y s
  | .neg a, σ, s => (ev cl a σ s).bind fun x s => gNeg x s
  | .no a, σ, s => (ev cl a σ s).bind fun x s => lift ((trV s x).map fun b => .bl (!b)) s
  | .conj es, σ, s => evAnd cl es σ s
  | .disj es, σ, s => evOr cl es σ s
  | .cmp o a b, σ, s => (ev cl a σ s).bind fun x s => (ev cl b σ s).bind fun y s => gCmp o x y s
  | .chain o p a b c, σ, s => (ev cl a σ s).bind fun x s => (ev cl b σ s).bind fun y s => (lift (cmpV s o x y) s).bind fun t s =>
      if t then (ev cl c σ s).bind fun z s => gCmp p y z s else .ok (.bl false) s
  | .chain3 o p q a b c d, σ, s => (ev cl a σ s).bind fun x s => (ev cl b σ s).bind fun y s => (lift (cmpV s o x y) s).bind fun t s =>
      if t then (ev cl c σ s).bind fun z s => (lift (cmpV s p y z) s).bind fun t s => if t then (ev cl d σ s).bind fun u s => gCmp q z u s else .ok (.bl false) s else .ok (.bl false) s
  | .ite c a b, σ, s => (ev cl c σ s).bind fun x s => (lift (trV s x) s).bind fun t s => if t then ev cl a σ s else ev cl b σ s
  | .tup es, σ, s => (evs cl es σ s).bind fun vs s => mkT vs s
  | .lst m es, σ, s => (evs cl es σ s).bind fun vs s => mkL m vs s
  | .idx a i, σ, s => (ev cl a σ s).bind fun x s => (ev cl i σ s).bind fun y s => gIdx x y s
  | .sl m a lo hi, σ, s => (ev cl a σ s).bind fun x s => (ev cl lo σ s).bind fun l s => (lift (bndOf lo l) s).bind fun l s =>
      (ev cl hi σ s).bind fun u s => (lift (bndOf hi u) s).bind fun u s => gSl m x l u s
  | .call keep f es, σ, s => (evs cl es σ s).bind fun vs s => cl keep f vs s
  | .callk keep f perm es, σ, s => (evs cl es σ s).bind fun vs s => cl keep f (perm.filterMap fun i => vs[i]?) s
  | .bi m b es, σ, s => (evs cl es σ s).bind fun vs s => biV m b vs s
  | .bm b o es, σ, s => (ev cl o σ s).bind fun v s => (lift (bmTy b v s) s).bind fun _ s => (evs cl es σ s).bind fun vs s => bmV b v vs s
  | .comp m elt tg it cs own, σ, s => (evIt cl it σ s).bind fun r s =>
      (noX (compL r.2 (fun x s => match asg tg x (wip σ own) with
        | none => .bad
        | some σ' => (evC cl cs σ' s).bind fun b s => if b then (ev cl elt σ' s).bind fun v s => .ok (some v) s else .ok none s) r.1 s)).bind fun vs s => mkL m vs s
  | .dcomp m t kx vx tg it cs own, σ, s => (evIt cl it σ s).bind fun r s =>
      (noX (compL r.2 (fun x s => match asg tg x (wip σ own) with
        | none => .bad
        | some σ' => (evC cl cs σ' s).bind fun b s => if b then (ev cl kx σ' s).bind fun k s => (ev cl vx σ' s).bind fun v s => .ok (some (.tup [k, v])) s else .ok none s) r.1 s)).bind fun vs s => (lift (putAll t vs []) s).bind fun kvs s => mkD m t kvs s
  | .scomp m elt tg it cs own, σ, s => (evIt cl it σ s).bind fun r s =>
      (noX (compL r.2 (fun x s => match asg tg x (wip σ own) with
        | none => .bad
        | some σ' => (evC cl cs σ' s).bind fun b s => if b then (ev cl elt σ' s).bind fun v s => .ok (some v) s else .ok none s) r.1 s)).bind fun vs s => (lift (intsOf vs) s).bind fun ns s => if (sortS ns).length < 64 then mkL m ((sortS ns).map .int) s else .bad
  | .dnew m t, _, s => mkD m t [] s
  | .dlit m t es, σ, s => (noX (evs cl es σ s)).bind fun vs s => (lift ((pairUp vs).bind fun ps => putAll t ps []) s).bind fun kvs s => mkD m t kvs s
  | .rev m a, σ, s => (ev cl a σ s).bind fun x s => gRev m x s
  | .sst m a, σ, s => (ev cl a σ s).bind fun x s => gSst m x s
  | .xmk c e, σ, s => (ev cl e σ s).bind fun x s => .ok (.exc c x) s
  | .fld e f, σ, s => (ev cl e σ s).bind fun x s => gFld f x s
  | .isx e ts, σ, s => (ev cl e σ s).bind fun x s => lift ((isxV ts x).map .bl) s
  | .mk c id perm es, σ, s => (evs cl es σ s).bind fun vs s => (cl true id (perm.filterMap fun i => (VV.ref s.length :: vs)[i]?) (s ++ [.obj c []])).bind fun x s1 => madeV s.length x s1
  | .meth keep c n id perm o es, σ, s => (ev cl o σ s).bind fun v s => (lift (isObj c n v s) s).bind fun _ s => (evs cl es σ s).bind fun vs s => cl keep id (perm.filterMap fun i => (v :: vs)[i]?) s
  | .lock x e, σ, s => match lckV x σ s with
    | some (k, t, kvs) => (noX (ev cl e σ (s.set k (.lck t kvs)))).bind fun v s => .ok v (s.set k (.dct t kvs))
    | none => .bad
  | .comp2 m elt tg it cs tg2 it2 cs2 vs2 own, σ, s => (evIt cl it σ s).bind fun r s =>
      (noX (compLL r.2 (fun x s => match asg tg x (wip σ own) with
        | none => .bad
        | some σ1 => (evC cl cs σ1 s).bind fun b s => if b then (evIt cl it2 σ1 s).bind fun r2 s => compL r2.2 (fun y s => match asg tg2 y (wip σ1 vs2) with
            | none => .bad
            | some σ2 => (evC cl cs2 σ2 s).bind fun b s => if b then (ev cl elt σ2 s).bind fun v s => .ok (some v) s else .ok none s) r2.1 s else .ok [] s) r.1 s)).bind fun vs s => mkL m vs s
def evs (cl : Cl) : List Ex → Sv → Hs → Out (List VV)
  | [], _, s => .ok [] s
  | e :: es, σ, s => (ev cl e σ s).bind fun v s => (evs cl es σ s).bind fun vs s => .ok (v :: vs) s
def evAnd (cl : Cl) : List Ex → Sv → Hs → Out VV
  | [], _, _ => .bad
  | [e], σ, s => ev cl e σ s
  | e :: es, σ, s => (ev cl e σ s).bind fun v s => (lift (trV s v) s).bind fun t s => if t then evAnd cl es σ s else .ok v s
def evOr (cl : Cl) : List Ex → Sv → Hs → Out VV
  | [], _, _ => .bad
  | [e], σ, s => ev cl e σ s
  | e :: es, σ, s => (ev cl e σ s).bind fun v s => (lift (trV s v) s).bind fun t s => if t then .ok v s else evOr cl es σ s
/-- a comprehension's tests -/
def evC (cl : Cl) : List Ex → Sv → Hs → Out Bool
  | [], _, s => .ok true s
  | e :: es, σ, s => (ev cl e σ s).bind fun v s => (lift (trV s v) s).bind fun t s => if t then evC cl es σ s else .ok false s
/-- what is walked -/
def evIt (cl : Cl) : It → Sv → Hs → Out Src
  | .range es, σ, s => (evs cl es σ s).bind fun vs s => gRange vs s
  | .zip a b, σ, s => (ev cl a σ s).bind fun x s => (ev cl b σ s).bind fun y s => gZip x y s
  | .enum a, σ, s => (ev cl a σ s).bind fun x s => gEnum x s
  | .dkeys e, σ, s => (ev cl e σ s).bind fun x s => lift ((lckOf s x).map fun kvs => (kvs.map (·.1), [])) s
  | .ditems e, σ, s => (ev cl e σ s).bind fun x s => lift ((lckOf s x).map fun kvs => (kvs.map fun p => .tup [p.1, p.2], [])) s
  | .dkeyi e, σ, s => (ev cl e σ s).bind fun x s => lift ((lckI s x).map fun kvs => (kvs.map (·.1), [])) s
  | .pl e, σ, s => (ev cl e σ s).bind fun x s => lift (srcOf s x) s
end
inductive Fl | nx (σ : Sv) | rt (v : VV) | bk (σ : Sv) | ct (σ : Sv) | xc (v : VV) (σ : Sv)
def cat (σ : Sv) : Out Fl → Out Fl
  | .exc v s => .ok (.xc v σ) s
  | o => o
def forL (g : List (Nat × List VV)) (step : VV → Sv → Hs → Out Fl) : List VV → Sv → Hs → Out Fl
  | [], σ, s => if gokB s g then .ok (.nx σ) s else .bad
  | x :: xs, σ, s => if gokB s g then (step x σ s).bind fun f s => match f with
    | .nx σ => forL g step xs σ s
    | .ct σ => forL g step xs σ s
    | .bk σ => .ok (.nx σ) s
    | .rt v => .ok (.rt v) s
    | .xc v σ => .ok (.xc v σ) s
    else .bad
def whileL (test : Sv → Hs → Out Bool) (step : Sv → Hs → Out Fl) : Nat → Sv → Hs → Out Fl
  | 0, _, _ => .bad
  | n + 1, σ, s => cat σ ((test σ s).bind fun b s => if b then (step σ s).bind fun f s => match f with
    | .nx σ => whileL test step n σ s
    | .ct σ => whileL test step n σ s
    | .bk σ => .ok (.nx σ) s
    | .rt v => .ok (.rt v) s
    | .xc v σ => .ok (.xc v σ) s
    else .ok (.nx σ) s)
def wfuel : Nat := 1000000
def augV (o : Bop) (x y : VV) (s : Hs) : Out VV := match x, y with
  | .int a, .int b => lift ((arith o a b).map VV.int) s
  | _, _ => .bad
def unlF (f : Fl) (s : Hs) : Out Fl := match f with
  | .xc _ _ => .bad
  | f => .ok f s
def tryF (cs : List String) (i j : Nat) (f : Fl) (s : Hs) : Out Fl := match f with
  | .xc (.exc c v) σ => if cs.contains c then .ok (.nx ((σ.set j (some (.exc c v))).set i none)) s else .ok (.xc (.exc c v) σ) s
  | .xc _ _ => .bad
  | f => .ok f s
def tryNF (c : String) (j : Nat) (f : Fl) (s : Hs) : Out Fl := match f with
  | .xc (.exc d v) σ => if d = c then .ok (.nx (σ.set j (some .non))) s else .ok (.xc (.exc d v) σ) s
  | .xc _ _ => .bad
  | f => .ok f s
mutual
def exs (cl : Cl) : List Stm → Sv → Hs → Out Fl
  | [], σ, s => .ok (.nx σ) s
  | st :: r, σ, s => (exe cl st σ s).bind fun f s => match f with
    | .nx σ => exs cl r σ s
    | f => .ok f s
def exe (cl : Cl) : Stm → Sv → Hs → Out Fl
  | .asg t e, σ, s => cat σ ((ev cl e σ s).bind fun v s => lift ((asg t v σ).map Fl.nx) s)
  | .sub o i e, σ, s => cat σ ((ev cl e σ s).bind fun v s => (ev cl o σ s).bind fun x s => (ev cl i σ s).bind fun y s => (setAt s x y v).bind fun _ s => .ok (.nx σ) s)
  | .sub2 o i p j e, σ, s => cat σ ((ev cl e σ s).bind fun v s => match v with
    | .tup [a, b] => (ev cl o σ s).bind fun x s => (ev cl i σ s).bind fun y s => (setAt s x y a).bind fun _ s => (ev cl p σ s).bind fun x s => (ev cl j σ s).bind fun y s => (setAt s x y b).bind fun _ s => .ok (.nx σ) s
    | _ => .bad)
  | .aug i o e, σ, s => match σ[i]? with
    | some (some x) => cat σ ((ev cl e σ s).bind fun y s => match x, y with
      | .int _, .int _ => (binV o x y s).bind fun z s => .ok (.nx (σ.set i (some z))) s
      | _, _ => .bad)
    | _ => .bad
  | .expr e, σ, s => cat σ ((ev cl e σ s).bind fun _ s => .ok (.nx σ) s)
  | .ret e, σ, s => cat σ ((ev cl e σ s).bind fun v s => .ok (.rt v) s)
  | .ife c a b, σ, s => cat σ ((ev cl c σ s).bind fun x s => (lift (trV s x) s).bind fun t s => if t then exs cl a σ s else exs cl b σ s)
  | .whl c b, σ, s => whileL (fun σ s => (ev cl c σ s).bind fun x s => lift (trV s x) s) (fun σ s => exs cl b σ s) wfuel σ s
  | .forr t it b, σ, s => cat σ ((evIt cl it σ s).bind fun r s => forL r.2 (fun x σ s => match asg t x σ with
      | some σ => exs cl b σ s
      | none => .bad) r.1 σ s)
  | .setf o f e, σ, s => cat σ ((ev cl e σ s).bind fun v s => (ev cl o σ s).bind fun x s => (setFld f x v s).bind fun _ s => .ok (.nx σ) s)
  | .augs o i op e, σ, s => cat σ ((ev cl o σ s).bind fun x s => (ev cl i σ s).bind fun y s => (lift ((getDV s x y).bind fun o => o) s).bind fun z s => (ev cl e σ s).bind fun u s => (augV op z u s).bind fun r s => (setK s x y r).bind fun _ s => .ok (.nx σ) s)
  | .lockS x b, σ, s => match lckV x σ s with
    | some (k, t, kvs) => (noX (exe cl b σ (s.set k (.lck t kvs)))).bind fun f s => unlF f (s.set k (.dct t kvs))
    | none => .bad
  | .rai c e, σ, s => cat σ ((ev cl e σ s).bind fun v s => .exc (.exc c v) s)
  | .tryk b cs i j, σ, s => (noX (exs cl b σ s)).bind fun f s => tryF cs i j f s
  | .tryn b c j, σ, s => (noX (exs cl b σ s)).bind fun f s => tryNF c j f s
  | .brk, σ, s => .ok (.bk σ) s
  | .cnt, σ, s => .ok (.ct σ) s
  | .pss, σ, s => .ok (.nx σ) s
  | .never, _, _ => .bad
end
mutual
def pur : VV → Bool
  | .non => true
  | .bl _ => true
  | .int _ => true
  | .str _ => true
  | .tup xs => purs xs
  | .lst xs => purs xs
  | .scr xs => purs xs
  | .dct _ kvs => purp kvs
  | .obj _ _ => false
  | .exc _ v => pur v
  | .ref _ => false
def purs : List VV → Bool
  | [] => true
  | x :: xs => pur x && purs xs
def purp : List (VV × VV) → Bool
  | [] => true
  | p :: ps => purq p && purp ps
def purq : VV × VV → Bool
  | (k, v) => pur k && pur v
end
def frz : Nat → Nat → Hs → VV → Option VV
  | n + 1, lim, s, .ref k => if k < lim then some (.ref k) else match s[k]? with
    | some (.lst xs) => (mapO (frz n lim s) xs).map .lst
    | some (.dct t kvs) => (mapO (fun p => (frz n lim s p.2).map fun v => (p.1, v)) kvs).map (.dct t)
    | _ => none
  | n + 1, lim, s, .dct t kvs => (mapO (fun p => (frz n lim s p.2).map fun v => (p.1, v)) kvs).map (.dct t)
  | n + 1, lim, s, .tup xs => (mapO (frz n lim s) xs).map .tup
  | n + 1, lim, s, .lst xs => (mapO (frz n lim s) xs).map .lst
  | _, _, _, v => if pur v then some v else none
def Stays (s0 s1 : Hs) : Prop := s0.length ≤ s1.length ∧ ∀ j, j < s0.length → s1[j]? = s0[j]? ∨ ∃ xs, s1[j]? = some (.lst xs) ∧ purs xs = true
open Classical in
noncomputable def fin (keep : Bool) (s0 : Hs) (v : VV) (s1 : Hs) : Out VV :=
  if keep then .ok v s1 else if Stays s0 s1 then (if pur v then .ok v (s1.take s0.length) else match frz 6 s0.length s1 v with
    | some v => .ok v (s1.take s0.length)
    | none => .bad) else .bad
abbrev Pg := String → Option Fn
noncomputable def outF (keep : Bool) (s0 : Hs) : Fl → Hs → Out VV
  | .rt v, s1 => fin keep s0 v s1
  | .nx _, s1 => fin keep s0 .non s1
  | .xc (.exc c v) _, s1 => (fin keep s0 v s1).bind fun v s => .exc (.exc c v) s
  | _, _ => .bad
noncomputable def callF (P : Pg) : Nat → Cl
  | 0, _, _, _, _ => .bad
  | n + 1, keep, f, vs, s => match P f with
    | none => .bad
    | some fn => if vs.length = fn.ar then (exs (callF P n) fn.body (vs.map some ++ List.replicate (fn.nl - fn.ar) none) s).bind (outF keep s) else .bad
theorem callF_run {P : Pg} {n : Nat} {keep : Bool} {f : String} {vs : List VV} {s : Hs} {fn : Fn} (hP : P f = some fn) (h : vs.length = fn.ar) :
    callF P (n + 1) keep f vs s = (exs (callF P n) fn.body (vs.map some ++ List.replicate (fn.nl - fn.ar) none) s).bind (outF keep s) := by
  show (match P f with
    | none => Out.bad
    | some fn => if vs.length = fn.ar then (exs (callF P n) fn.body (vs.map some ++ List.replicate (fn.nl - fn.ar) none) s).bind (outF keep s) else Out.bad) = _
  rw [hP]
  exact if_pos h
end Tw
set_option Elab.async false
set_option linter.all false
set_option autoImplicit false
set_option maxRecDepth 100000
namespace Tw
open PySem PySem.Spec PyProof.Rows L2
structure Mp where
  ix : List Ad
  av : List Ad
def Mp.out (m : Mp) (a : Ad) : Prop := a ∉ m.ix ∧ a ∉ m.av
def FzS (K : PySem.W.Frag) (m : Mp) (H : Hp) (a : Ad) (ys : List V) : Prop := (Rd H a (.lst ys) ∧ m.out a) ∨ SqL K (fun _ => none) a ys
def FzL (m : Mp) (H : Hp) (a : Ad) (ys : List V) : Prop := H a = some (.lst ys) ∧ m.out a
def FzT (K : PySem.W.Frag) (m : Mp) (H : Hp) (a : Ad) (ys : List V) : Prop := (Rd H a (.tup ys) ∧ m.out a) ∨ SqT K (fun _ => none) a ys
def kA (K : PySem.W.Frag) (c : String) : Ad := xA K c
structure KcG (K : PySem.W.Frag) (c : String) : Prop where
  cls : Cls K (kA K c)
  no : ∀ f ∈ cFlds c, NoAttr K (kA K c) f
inductive DK | i (n : Int) | t (k : KF) (b : Ad)
def dcO (a : Ad) (t : Bool) (xs : List (DK × V)) (o : HO) : Prop := (t = false ∧ ∃ ps : List (Int × V), xs = ps.map (fun p => (DK.i p.1, p.2)) ∧ o = .dK (ps.map fun p => ((Sum.inl p.1 : L2.Key), p.2))) ∨ (t = true ∧ ∃ ps : Prs, xs = ps.map (fun p => (DK.t p.1 p.2.1, p.2.2)) ∧ o = dicO a ps)
section
variable (K : PySem.W.Frag) (m : Mp) (H : Hp)
mutual
inductive R : VV → V → Prop
  | non : R .non .non
  | bl (b : Bool) : R (.bl b) (.bl b)
  | int (i : Int) : R (.int i) (.int i)
  | str (x : Str) : R (.str x) (.str x)
  | tup {a : Ad} {xs : List VV} {ys : List V} : FzT K m H a ys → Rs xs ys → R (.tup xs) (.ref a)
  | lst {a : Ad} {xs : List VV} {ys : List V} : FzL m H a ys → Rs xs ys → R (.lst xs) (.ref a)
  | scr {a : Ad} {xs : List VV} {ys : List V} : FzS K m H a ys → Rs xs ys → R (.scr xs) (.ref a)
  | ref {k : Nat} {a : Ad} : m.ix[k]? = some a → R (.ref k) (.ref a)
  | dct {a : Ad} {t : Bool} {kvs : List (VV × VV)} {xs : List (DK × V)} {o : HO} : H a = some o → m.out a → dcO a t xs o → Rp kvs xs → R (.dct t kvs) (.ref a)
  | exc {a d : Ad} {c : String} {x : VV} {v : V} : XcG K c → H a = some (XO a (xA K c) d) → m.out a → H d = some (.xd [(xF c, v)]) → m.out d → R x v → R (.exc c x) (.ref a)
inductive Rs : List VV → List V → Prop
  | nil : Rs [] []
  | cons {x : VV} {v : V} {xs : List VV} {vs : List V} : R x v → Rs xs vs → Rs (x :: xs) (v :: vs)
inductive Rp : List (VV × VV) → List (DK × V) → Prop
  | nil : Rp [] []
  | int {i : Int} {x : VV} {v : V} {kvs : List (VV × VV)} {xs : List (DK × V)} : R x v → Rp kvs xs → Rp ((.int i, x) :: kvs) ((.i i, v) :: xs)
  | tup {ks : List VV} {kf : KF} {b : Ad} {x : VV} {v : V} {kvs : List (VV × VV)} {xs : List (DK × V)} : mapO kF1 ks = some kf → FzT K m H b (kf.map k1V) → R x v → Rp kvs xs → Rp ((.tup ks, x) :: kvs) ((.t kf b, v) :: xs)
end
def OR : Ob → Ad → Prop
  | .lst xs, a => ∃ ys, H a = some (.lst ys) ∧ Rs K m H xs ys
  | .dct t kvs, a => ∃ xs o, H a = some o ∧ dcO a t xs o ∧ Rp K m H kvs xs
  | .obj c fs, a => ∃ dx gs, H a = some (.ins (kA K c) dx gs) ∧ KcG K c ∧ fs.map (·.1) = gs.map (·.1) ∧ Rs K m H (fs.map (·.2)) (gs.map (·.2))
  | .lck t kvs, a => ∃ od xs o, H a = some (.frz od o) ∧ dcO a t xs o ∧ Rp K m H kvs xs
structure SimH (S : Hs) : Prop where
  len : m.ix.length = S.length
  nd : m.ix.Nodup
  obj : ∀ (k : Nat) (o : Ob) (a : Ad), S[k]? = some o → m.ix[k]? = some a → OR K m H o a
  apart : ∀ a ∈ m.av, a ∉ m.ix ∧ H a ≠ none
structure SimE (σv : Sv) (σ : L2.St) : Prop where
  len : σ.length = σv.length
  get : ∀ (i : Nat) (x : VV), σv[i]? = some (some x) → ∃ v, σ[i]? = some (some v) ∧ R K m H x v
end
section
variable {K : PySem.W.Frag} {m m' m1 m2 : Mp} {H H' H1 H2 : Hp} {S S' : Hs} {a : Ad} {x : VV} {v : V} {xs : List VV} {vs : List V}
theorem none_rdL {ys : List V} (h : SqL K (fun _ => none) a ys) (H : Hp) : SqL K H a ys := by
  rcases h with (h | ⟨o, h⟩) | h
  · cases h
  · cases h
  · exact .inr h
theorem none_rdT {ys : List V} (h : SqT K (fun _ => none) a ys) (H : Hp) : SqT K H a ys := by
  rcases h with (h | ⟨o, h⟩) | h
  · cases h
  · cases h
  · exact .inr h
theorem FzS.sq {ys : List V} (h : FzS K m H a ys) : SqL K H a ys := by
  rcases h with ⟨h, _⟩ | h
  · exact .inl h
  · exact none_rdL h H
theorem FzL.sq {ys : List V} (h : FzL m H a ys) : SqL K H a ys := SqL.of h.1
theorem FzT.sq {ys : List V} (h : FzT K m H a ys) : SqT K H a ys := by
  rcases h with ⟨h, _⟩ | h
  · exact .inl h
  · exact none_rdT h H
structure Ext (m : Mp) (H : Hp) (m' : Mp) (H' : Hp) : Prop where
  keep : ∀ (a : Ad) (o : HO), H a = some o → a ∉ m.ix → H' a = some o
  live : ∀ a : Ad, H a ≠ none → H' a ≠ none
  av : m'.av = m.av
  frz : ∀ (a : Ad) (o : Obj) (u : HO), H a = some (.frz o u) → H' a = some (.frz o u)
  grow : ∃ t, m'.ix = m.ix ++ t ∧ ∀ a ∈ t, H a = none
theorem Ext.refl : Ext m H m H := ⟨fun _ _ h _ => h, fun _ h => h, rfl, fun _ _ _ h => h, [], by simp, by simp⟩
theorem Ext.nin (e : Ext m H m' H') (h : H a ≠ none) (hm : a ∉ m.ix) : a ∉ m'.ix := fun q => by
  obtain ⟨t, ht, hn⟩ := e.grow
  rw [ht] at q
  rcases List.mem_append.mp q with q | q
  · exact hm q
  · exact h (hn a q)
theorem Ext.out (e : Ext m H m' H') (h : H a ≠ none) (hm : m.out a) : m'.out a := ⟨e.nin h hm.1, by rw [e.av]; exact hm.2⟩
theorem Ext.trans (e : Ext m H m1 H1) (f : Ext m1 H1 m2 H2) : Ext m H m2 H2 := by
  obtain ⟨t, et, ht⟩ := e.grow
  obtain ⟨u, eu, hu⟩ := f.grow
  refine ⟨fun a o h hm => f.keep a o (e.keep a o h hm) (e.nin (by rw [h]; simp) hm), fun a h => f.live a (e.live a h), f.av.trans e.av, fun a o u h => f.frz a o u (e.frz a o u h), t ++ u, by rw [eu, et, List.append_assoc], fun a ha => ?_⟩
  rcases List.mem_append.mp ha with q | q
  · exact ht a q
  · cases hh : H a with
    | none => rfl
    | some o => exact absurd (hu a q) (e.live a (by rw [hh]; simp))
theorem rd_ne {u : HO} (h : Rd H a u) : H a ≠ none := by
  rcases h with h | ⟨o, h⟩ <;> rw [h] <;> simp
theorem Ext.rd {u : HO} (e : Ext m H m' H') (h : Rd H a u) (hm : a ∉ m.ix) : Rd H' a u := by
  rcases h with h | ⟨o, h⟩
  · exact .inl (e.keep _ _ h hm)
  · exact .inr ⟨o, e.keep _ _ h hm⟩
theorem Ext.rdL {ys : List V} (e : Ext m H m' H') (h : FzL m H a ys) : FzL m' H' a ys := ⟨e.keep _ _ h.1 h.2.1, e.out (by rw [h.1]; simp) h.2⟩
theorem Ext.rdS {ys : List V} (e : Ext m H m' H') (h : FzS K m H a ys) : FzS K m' H' a ys := by
  rcases h with ⟨h, hm⟩ | h
  · exact .inl ⟨e.rd h hm.1, e.out (rd_ne h) hm⟩
  · exact .inr h
theorem Ext.rdT {ys : List V} (e : Ext m H m' H') (h : FzT K m H a ys) : FzT K m' H' a ys := by
  rcases h with ⟨h, hm⟩ | h
  · exact .inl ⟨e.rd h hm.1, e.out (rd_ne h) hm⟩
  · exact .inr h
mutual
theorem R.ext (e : Ext m H m' H') : ∀ {x : VV} {v : V}, R K m H x v → R K m' H' x v
  | _, _, .non => .non
  | _, _, .bl b => .bl b
  | _, _, .int i => .int i
  | _, _, .str z => .str z
  | _, _, .tup f r => .tup (e.rdT f) (Rs.ext e r)
  | _, _, .lst f r => .lst (e.rdL f) (Rs.ext e r)
  | _, _, .scr f r => .scr (e.rdS f) (Rs.ext e r)
  | _, _, .ref h => by
    obtain ⟨t, et, _⟩ := e.grow
    exact .ref (by rw [et, List.getElem?_append_left (List.getElem?_eq_some_iff.mp h).1]; exact h)
  | _, _, .dct h hm d r => .dct (e.keep _ _ h hm.1) (e.out (by rw [h]; simp) hm) d (Rp.ext e r)
  | _, _, .exc g h hm h2 hm2 r => .exc g (e.keep _ _ h hm.1) (e.out (by rw [h]; simp) hm) (e.keep _ _ h2 hm2.1) (e.out (by rw [h2]; simp) hm2) (R.ext e r)
theorem Rs.ext (e : Ext m H m' H') : ∀ {xs : List VV} {vs : List V}, Rs K m H xs vs → Rs K m' H' xs vs
  | _, _, .nil => .nil
  | _, _, .cons r t => .cons (R.ext e r) (Rs.ext e t)
theorem Rp.ext (e : Ext m H m' H') : ∀ {xs : List (VV × VV)} {vs : List (DK × V)}, Rp K m H xs vs → Rp K m' H' xs vs
  | _, _, .nil => .nil
  | _, _, .int r t => .int (R.ext e r) (Rp.ext e t)
  | _, _, .tup k f r t => .tup k (e.rdT f) (R.ext e r) (Rp.ext e t)
end
def Mp.apart (m : Mp) (d : Ad) : Mp := ⟨m.ix, d :: m.av⟩
section
variable {d : Ad} {o : HO}
theorem out_ne (hm : (m.apart d).out a) : a ≠ d := fun e => hm.2 (by rw [e]; exact List.mem_cons_self)
theorem fzT_put {a : Ad} {ys : List V} (f : FzT K (m.apart d) H a ys) : FzT K (m.apart d) (upd H d o) a ys := by
  rcases f with ⟨h, hm⟩ | h
  · refine .inl ⟨?_, hm⟩
    rcases h with h | ⟨u, h⟩
    · exact .inl (by rw [upd_ne (out_ne hm)]; exact h)
    · exact .inr ⟨u, by rw [upd_ne (out_ne hm)]; exact h⟩
  · exact .inr h
mutual
/-- what is kept apart may be written -/
theorem R.put : ∀ {x : VV} {v : V}, R K (m.apart d) H x v → R K (m.apart d) (upd H d o) x v
  | _, _, .non => .non
  | _, _, .bl b => .bl b
  | _, _, .int i => .int i
  | _, _, .str z => .str z
  | _, _, .tup f r => .tup (by
      rcases f with ⟨h, hm⟩ | h
      · refine .inl ⟨?_, hm⟩
        rcases h with h | ⟨u, h⟩
        · exact .inl (by rw [upd_ne (out_ne hm)]; exact h)
        · exact .inr ⟨u, by rw [upd_ne (out_ne hm)]; exact h⟩
      · exact .inr h) (Rs.put r)
  | _, _, .lst f r => .lst ⟨by rw [upd_ne (out_ne f.2)]; exact f.1, f.2⟩ (Rs.put r)
  | _, _, .scr f r => .scr (by
      rcases f with ⟨h, hm⟩ | h
      · refine .inl ⟨?_, hm⟩
        rcases h with h | ⟨u, h⟩
        · exact .inl (by rw [upd_ne (out_ne hm)]; exact h)
        · exact .inr ⟨u, by rw [upd_ne (out_ne hm)]; exact h⟩
      · exact .inr h) (Rs.put r)
  | _, _, .ref h => .ref h
  | _, _, .dct h hm c r => .dct (by rw [upd_ne (out_ne hm)]; exact h) hm c (Rp.put r)
  | _, _, .exc g h hm h2 hm2 r => .exc g (by rw [upd_ne (out_ne hm)]; exact h) hm (by rw [upd_ne (out_ne hm2)]; exact h2) hm2 (R.put r)
theorem Rs.put : ∀ {xs : List VV} {vs : List V}, Rs K (m.apart d) H xs vs → Rs K (m.apart d) (upd H d o) xs vs
  | _, _, .nil => .nil
  | _, _, .cons r t => .cons (R.put r) (Rs.put t)
theorem Rp.put : ∀ {xs : List (VV × VV)} {vs : List (DK × V)}, Rp K (m.apart d) H xs vs → Rp K (m.apart d) (upd H d o) xs vs
  | _, _, .nil => .nil
  | _, _, .int r t => .int (R.put r) (Rp.put t)
  | _, _, .tup k f r t => .tup k (fzT_put f) (R.put r) (Rp.put t)
end
mutual
/-- apart: d was free -/
theorem R.aside (hd : H d = none) : ∀ {x : VV} {v : V}, R K m H x v → R K (m.apart d) (upd H d o) x v
  | _, _, .non => .non
  | _, _, .bl b => .bl b
  | _, _, .int i => .int i
  | _, _, .str z => .str z
  | _, _, .tup f r => .tup (by
      rcases f with ⟨h, hm⟩ | h
      · refine .inl ⟨?_, aside_out hd (rd_ne h) hm⟩
        exact aside_rd hd h
      · exact .inr h) (Rs.aside hd r)
  | _, _, .lst f r => .lst ⟨by rw [upd_ne (ne_of_none f.1 hd)]; exact f.1, aside_out hd (by rw [f.1]; simp) f.2⟩ (Rs.aside hd r)
  | _, _, .scr f r => .scr (by
      rcases f with ⟨h, hm⟩ | h
      · exact .inl ⟨aside_rd hd h, aside_out hd (rd_ne h) hm⟩
      · exact .inr h) (Rs.aside hd r)
  | _, _, .ref h => .ref h
  | _, _, .dct h hm c r => .dct (by rw [upd_ne (ne_of_none h hd)]; exact h) (aside_out hd (by rw [h]; simp) hm) c (Rp.aside hd r)
  | _, _, .exc g h hm h2 hm2 r => .exc g (by rw [upd_ne (ne_of_none h hd)]; exact h) (aside_out hd (by rw [h]; simp) hm) (by rw [upd_ne (ne_of_none h2 hd)]; exact h2) (aside_out hd (by rw [h2]; simp) hm2) (R.aside hd r)
theorem Rs.aside (hd : H d = none) : ∀ {xs : List VV} {vs : List V}, Rs K m H xs vs → Rs K (m.apart d) (upd H d o) xs vs
  | _, _, .nil => .nil
  | _, _, .cons r t => .cons (R.aside hd r) (Rs.aside hd t)
theorem Rp.aside (hd : H d = none) : ∀ {xs : List (VV × VV)} {vs : List (DK × V)}, Rp K m H xs vs → Rp K (m.apart d) (upd H d o) xs vs
  | _, _, .nil => .nil
  | _, _, .int r t => .int (R.aside hd r) (Rp.aside hd t)
  | _, _, .tup k f r t => .tup k (by
      rcases f with ⟨h, hm⟩ | h
      · exact .inl ⟨aside_rd hd h, aside_out hd (rd_ne h) hm⟩
      · exact .inr h) (R.aside hd r) (Rp.aside hd t)
theorem aside_out (hd : H d = none) {a : Ad} (h : H a ≠ none) (hm : m.out a) : (m.apart d).out a := ⟨hm.1, fun q => by
  rcases List.mem_cons.mp q with q | q
  · rw [q] at h; exact h hd
  · exact hm.2 q⟩
theorem aside_rd (hd : H d = none) {a : Ad} {u : HO} (h : Rd H a u) : Rd (upd H d o) a u := by
  rcases h with h | ⟨w, h⟩
  · exact .inl (by rw [upd_ne (ne_of_none h hd)]; exact h)
  · exact .inr ⟨w, by rw [upd_ne (ne_of_none h hd)]; exact h⟩
end
mutual
theorem R.back : ∀ {x : VV} {v : V}, R K (m.apart d) H x v → R K m H x v
  | _, _, .non => .non
  | _, _, .bl b => .bl b
  | _, _, .int i => .int i
  | _, _, .str z => .str z
  | _, _, .tup f r => .tup (f.imp (fun h => ⟨h.1, back_out h.2⟩) id) (Rs.back r)
  | _, _, .lst f r => .lst ⟨f.1, back_out f.2⟩ (Rs.back r)
  | _, _, .scr f r => .scr (f.imp (fun h => ⟨h.1, back_out h.2⟩) id) (Rs.back r)
  | _, _, .ref h => .ref h
  | _, _, .dct h hm c r => .dct h (back_out hm) c (Rp.back r)
  | _, _, .exc g h hm h2 hm2 r => .exc g h (back_out hm) h2 (back_out hm2) (R.back r)
theorem Rs.back : ∀ {xs : List VV} {vs : List V}, Rs K (m.apart d) H xs vs → Rs K m H xs vs
  | _, _, .nil => .nil
  | _, _, .cons r t => .cons (R.back r) (Rs.back t)
theorem Rp.back : ∀ {xs : List (VV × VV)} {vs : List (DK × V)}, Rp K (m.apart d) H xs vs → Rp K m H xs vs
  | _, _, .nil => .nil
  | _, _, .int r t => .int (R.back r) (Rp.back t)
  | _, _, .tup k f r t => .tup k (f.imp (fun h => ⟨h.1, back_out h.2⟩) id) (R.back r) (Rp.back t)
theorem back_out {a : Ad} (h : (m.apart d).out a) : m.out a := ⟨h.1, fun q => h.2 (List.mem_cons_of_mem _ q)⟩
end
end
theorem SimE.ext {σv : Sv} {σ : L2.St} (e : Ext m H m' H') (h : SimE K m H σv σ) : SimE K m' H' σv σ :=
  ⟨h.len, fun i x q => let ⟨v, h1, h2⟩ := h.get i x q; ⟨v, h1, h2.ext e⟩⟩
theorem Rs.length : ∀ {xs : List VV} {vs : List V}, Rs K m H xs vs → xs.length = vs.length
  | _, _, .nil => rfl
  | _, _, .cons _ t => by simp [Rs.length t]
theorem Rs.get : ∀ {xs : List VV} {vs : List V} {i : Nat} {x : VV}, Rs K m H xs vs → xs[i]? = some x → ∃ v, vs[i]? = some v ∧ R K m H x v
  | _, _, _, _, .nil, h => by simp at h
  | _, _, 0, _, .cons r _, h => by
    simp at h
    subst h
    exact ⟨_, rfl, r⟩
  | _, _, i + 1, _, .cons _ t, h => by
    obtain ⟨v, h1, h2⟩ := Rs.get (i := i) t (by simpa using h)
    exact ⟨v, by simpa using h1, h2⟩
theorem Rs.append : ∀ {xs ys : List VV} {vs ws : List V}, Rs K m H xs vs → Rs K m H ys ws → Rs K m H (xs ++ ys) (vs ++ ws)
  | _, _, _, _, .nil, s => s
  | _, _, _, _, .cons r t, s => .cons r (Rs.append t s)
theorem Rs.take : ∀ {xs : List VV} {vs : List V} (n : Nat), Rs K m H xs vs → Rs K m H (xs.take n) (vs.take n)
  | _, _, 0, _ => .nil
  | _, _, _ + 1, .nil => .nil
  | _, _, n + 1, .cons r t => .cons r (Rs.take n t)
theorem Rs.drop : ∀ {xs : List VV} {vs : List V} (n : Nat), Rs K m H xs vs → Rs K m H (xs.drop n) (vs.drop n)
  | _, _, 0, r => r
  | _, _, _ + 1, .nil => .nil
  | _, _, n + 1, .cons r t => Rs.drop n t
theorem Rs.set (r : R K m H x v) : ∀ {xs : List VV} {vs : List V} (i : Nat), Rs K m H xs vs → Rs K m H (xs.set i x) (vs.set i v)
  | _, _, _, .nil => .nil
  | _, _, 0, .cons _ t => .cons r t
  | _, _, i + 1, .cons q t => .cons q (Rs.set r i t)
theorem Rs.dropLast (h : Rs K m H xs vs) : Rs K m H xs.dropLast vs.dropLast := by
  rw [List.dropLast_eq_take, List.dropLast_eq_take, h.length]
  exact h.take _
theorem Rs.rep (h : Rs K m H xs vs) : ∀ k : Nat, Rs K m H (List.replicate k xs).flatten (List.replicate k vs).flatten
  | 0 => .nil
  | k + 1 => by
    rw [List.replicate_succ, List.replicate_succ, List.flatten_cons, List.flatten_cons]
    exact h.append (Rs.rep h k)
theorem Rs.ints : ∀ {ns : List Int} {xs : List VV} {vs : List V}, mapO intOf xs = some ns → Rs K m H xs vs → vs = ns.map V.int
  | ns, [], _, h, .nil => by cases h; rfl
  | ns, x :: xs, _, h, .cons r t => by
    unfold mapO at h
    split at h
    · rename_i y ys e1 e2
      cases h
      cases r <;> simp [intOf] at e1
      subst e1
      rw [Rs.ints e2 t]; rfl
    · cases h
theorem Rs.bls : ∀ {ns : List Bool} {xs : List VV} {vs : List V}, mapO blOf xs = some ns → Rs K m H xs vs → vs = ns.map V.bl
  | ns, [], _, h, .nil => by cases h; rfl
  | ns, x :: xs, _, h, .cons r t => by
    unfold mapO at h
    split at h
    · rename_i y ys e1 e2
      cases h
      cases r <;> simp [blOf] at e1
      subst e1
      rw [Rs.bls e2 t]; rfl
    · cases h
theorem Rs.of_ints : ∀ {ns : List Int}, Rs K m H (ns.map VV.int) (ns.map V.int)
  | [] => .nil
  | n :: ns => .cons (.int n) Rs.of_ints
theorem SimH.at (h : SimH K m H S) {k : Nat} (hk : m.ix[k]? = some a) : ∃ o, S[k]? = some o ∧ OR K m H o a := by
  obtain ⟨hlt, _⟩ := List.getElem?_eq_some_iff.mp hk
  have hs : k < S.length := by rw [← h.len]; exact hlt
  exact ⟨S[k], List.getElem?_eq_getElem hs, h.obj k _ a (List.getElem?_eq_getElem hs) hk⟩
theorem kid_some {k : Nat} (h : kid S k = some xs) : S[k]? = some (.lst xs) := by
  unfold kid at h
  split at h
  · cases h; assumption
  · cases h
theorem SimH.list (h : SimH K m H S) {k : Nat} (hk : m.ix[k]? = some a) (e : kid S k = some xs) : ∃ ys, H a = some (.lst ys) ∧ Rs K m H xs ys :=
  h.obj k _ a (kid_some e) hk
theorem seq_rd (h : SimH K m H S) (r : R K m H x v) (e : seqOf S x = some xs) : ∃ a ys, v = .ref a ∧ (SqL K H a ys ∨ SqT K H a ys) ∧ Rs K m H xs ys := by
  cases r <;> simp [seqOf] at e
  · subst e
    rename_i a ys f t
    exact ⟨_, _, rfl, .inr (FzT.sq (by assumption)), by assumption⟩
  · subst e
    rename_i a ys f t
    exact ⟨_, _, rfl, .inl (FzL.sq (by assumption)), by assumption⟩
  · rename_i k a hk
    obtain ⟨ys, h1, h2⟩ := h.list hk e
    exact ⟨a, ys, rfl, .inl (SqL.of h1), h2⟩
theorem SimH.mem_some (h : SimH K m H S) (ha : a ∈ m.ix) : H a ≠ none := by
  obtain ⟨k, hk⟩ := List.mem_iff_getElem?.mp ha
  obtain ⟨o, _, r⟩ := h.at hk
  cases o with
  | lst xs => obtain ⟨ys, e, _⟩ := r; rw [e]; simp
  | dct _ _ => obtain ⟨_, _, e, _⟩ := r; rw [e]; simp
  | obj _ _ => obtain ⟨_, _, e, _⟩ := r; rw [e]; simp
  | lck _ _ => obtain ⟨_, _, _, e, _⟩ := r; rw [e]; simp
theorem not_mem_of_none (h : SimH K m H S) (hp : H a = none) : a ∉ m.ix := fun q => h.mem_some q hp
theorem out_of_none (h : SimH K m H S) (hp : H a = none) : m.out a := ⟨not_mem_of_none h hp, fun q => (h.apart a q).2 hp⟩
def Mp.push (m : Mp) (a : Ad) : Mp := ⟨m.ix ++ [a], m.av⟩
theorem Ext.new {o : HO} (hp : H a = none) : Ext m H m (upd H a o) := by
  refine ⟨fun b u h _ => ?_, fun b h => ?_, rfl, fun b o u h => ?_, [], by simp, by simp⟩
  · rw [upd_ne (ne_of_none h hp)]; exact h
  · by_cases hb : b = a
    · subst hb; rw [upd_same]; simp
    · rw [upd_ne hb]; exact h
  · rw [upd_ne (ne_of_none h hp)]; exact h
theorem Ext.newM {o : HO} (hp : H a = none) : Ext m H (m.push a) (upd H a o) := by
  have e := Ext.new (m := m) (o := o) hp
  exact ⟨e.keep, e.live, rfl, e.frz, [a], rfl, fun b hb => by rw [List.mem_singleton.mp hb]; exact hp⟩
theorem OR.ext (e : Ext m H m' H') {o : Ob} (ho : OR K m H o a) (hk : ∀ u, H a = some u → H' a = some u) : OR K m' H' o a := by
  cases o with
  | lst xs => obtain ⟨ys, h1, h2⟩ := ho; exact ⟨ys, hk _ h1, h2.ext e⟩
  | dct _ _ => obtain ⟨ys, o, h1, h3, h2⟩ := ho; exact ⟨ys, o, hk _ h1, h3, h2.ext e⟩
  | obj _ _ => obtain ⟨dx, gs, h1, h3, h4, h2⟩ := ho; exact ⟨dx, gs, hk _ h1, h3, h4, h2.ext e⟩
  | lck _ _ => obtain ⟨od, ys, o, h1, h3, h2⟩ := ho; exact ⟨od, ys, o, hk _ h1, h3, h2.ext e⟩
theorem SimH.new {o : HO} (h : SimH K m H S) (hp : H a = none) : SimH K m (upd H a o) S :=
  ⟨h.len, h.nd, fun k ob b h1 h2 => (h.obj k ob b h1 h2).ext (Ext.new hp) fun ys q => by rw [upd_ne (ne_of_none q hp)]; exact q,
    fun b hb => ⟨(h.apart b hb).1, (Ext.new (m := m) hp).live b (h.apart b hb).2⟩⟩
theorem SimH.newO {o : HO} {ob : Ob} (h : SimH K m H S) (hp : H a = none) (r : OR K (m.push a) (upd H a o) ob a) : SimH K (m.push a) (upd H a o) (S ++ [ob]) := by
  have hm : a ∉ m.ix := not_mem_of_none h hp
  refine ⟨by simp [Mp.push, h.len], ?_, fun k ob b h1 h2 => ?_, fun b hb => ⟨fun q => ?_, (Ext.new (m := m) hp).live b (h.apart b hb).2⟩⟩
  · show (m.ix ++ [a]).Nodup
    rw [List.nodup_append]
    exact ⟨h.nd, by simp, fun x hx y hy z => hm (by rw [List.mem_singleton.mp hy] at z; exact z ▸ hx)⟩
  · have h2 : (m.ix ++ [a])[k]? = some b := h2
    by_cases hk : k < m.ix.length
    · rw [List.getElem?_append_left hk] at h2
      rw [List.getElem?_append_left (by rw [← h.len]; exact hk)] at h1
      exact (h.obj k ob b h1 h2).ext (Ext.newM hp) fun ys q => by rw [upd_ne (ne_of_none q hp)]; exact q
    · rw [List.getElem?_append_right (Nat.le_of_not_lt hk)] at h2
      rw [List.getElem?_append_right (by rw [← h.len]; exact Nat.le_of_not_lt hk)] at h1
      rw [h.len] at h2
      cases e : k - S.length with
      | zero =>
        rw [e] at h1 h2
        simp at h1 h2
        subst h1 h2
        exact r
      | succ n => rw [e] at h1; simp at h1
  · rcases List.mem_append.mp q with q | q
    · exact (h.apart b hb).1 q
    · rw [List.mem_singleton.mp q] at hb
      exact (h.apart a hb).2 hp
theorem SimH.newM {ys : List V} (h : SimH K m H S) (hp : H a = none) (r : Rs K m H xs ys) : SimH K (m.push a) (upd H a (.lst ys)) (S ++ [.lst xs]) := h.newO hp ⟨ys, upd_same, r.ext (Ext.newM hp)⟩
theorem out_wr (ha : a ∈ m.ix) {b : Ad} (hm : m.out b) : b ≠ a := fun e => hm.1 (by rw [e]; exact ha)
theorem rd_wr {o : HO} (ha : a ∈ m.ix) {b : Ad} {u : HO} (h : Rd H b u) (hm : m.out b) : Rd (upd H a o) b u := by
  rcases h with h | ⟨w, h⟩
  · exact .inl (by rw [upd_ne (out_wr ha hm)]; exact h)
  · exact .inr ⟨w, by rw [upd_ne (out_wr ha hm)]; exact h⟩
mutual
theorem R.wr {o : HO} (ha : a ∈ m.ix) : ∀ {x : VV} {v : V}, R K m H x v → R K m (upd H a o) x v
  | _, _, .non => .non
  | _, _, .bl b => .bl b
  | _, _, .int i => .int i
  | _, _, .str z => .str z
  | _, _, .tup f r => .tup (f.imp (fun h => ⟨rd_wr ha h.1 h.2, h.2⟩) id) (Rs.wr ha r)
  | _, _, .lst f r => .lst ⟨by rw [upd_ne (out_wr ha f.2)]; exact f.1, f.2⟩ (Rs.wr ha r)
  | _, _, .scr f r => .scr (f.imp (fun h => ⟨rd_wr ha h.1 h.2, h.2⟩) id) (Rs.wr ha r)
  | _, _, .ref h => .ref h
  | _, _, .dct h hm c r => .dct (by rw [upd_ne (out_wr ha hm)]; exact h) hm c (Rp.wr ha r)
  | _, _, .exc g h hm h2 hm2 r => .exc g (by rw [upd_ne (out_wr ha hm)]; exact h) hm (by rw [upd_ne (out_wr ha hm2)]; exact h2) hm2 (R.wr ha r)
theorem Rs.wr {o : HO} (ha : a ∈ m.ix) : ∀ {xs : List VV} {vs : List V}, Rs K m H xs vs → Rs K m (upd H a o) xs vs
  | _, _, .nil => .nil
  | _, _, .cons r t => .cons (R.wr ha r) (Rs.wr ha t)
theorem Rp.wr {o : HO} (ha : a ∈ m.ix) : ∀ {xs : List (VV × VV)} {vs : List (DK × V)}, Rp K m H xs vs → Rp K m (upd H a o) xs vs
  | _, _, .nil => .nil
  | _, _, .int r t => .int (R.wr ha r) (Rp.wr ha t)
  | _, _, .tup k f r t => .tup k (f.imp (fun h => ⟨rd_wr ha h.1 h.2, h.2⟩) id) (R.wr ha r) (Rp.wr ha t)
end
theorem Ext.write {o : HO} (ha : a ∈ m.ix) (hn : ∀ od u, H a ≠ some (.frz od u)) : Ext m H m (upd H a o) := by
  refine ⟨fun b u h hb => ?_, fun b h => ?_, rfl, fun b od u h => ?_, [], by simp, by simp⟩
  · rw [upd_ne (fun q => hb (by rw [q]; exact ha))]; exact h
  · by_cases hb : b = a
    · subst hb; rw [upd_same]; simp
    · rw [upd_ne hb]; exact h
  · rw [upd_ne (fun q => hn od u (by rw [← q]; exact h))]; exact h
theorem SimH.writeO {o : HO} {ob : Ob} (h : SimH K m H S) {k : Nat} (hk : m.ix[k]? = some a) (r : OR K m (upd H a o) ob a) : SimH K m (upd H a o) (S.set k ob) := by
  have ha : a ∈ m.ix := List.mem_of_getElem? hk
  have live : ∀ b : Ad, H b ≠ none → upd H a o b ≠ none := fun b h => by
    by_cases hb : b = a
    · subst hb; rw [upd_same]; simp
    · rw [upd_ne hb]; exact h
  refine ⟨by simp [h.len], h.nd, fun j ob b h1 h2 => ?_, fun b hb => ⟨(h.apart b hb).1, live b (h.apart b hb).2⟩⟩
  by_cases hj : j = k
  · subst hj
    rw [hk] at h2
    cases h2
    obtain ⟨hlt, _⟩ := List.getElem?_eq_some_iff.mp hk
    rw [List.getElem?_set_self (by rw [← h.len]; exact hlt)] at h1
    cases h1
    exact r
  · rw [List.getElem?_set_ne (Ne.symm hj)] at h1
    have hne : b ≠ a := fun q => by
      subst q
      obtain ⟨l1, e1⟩ := List.getElem?_eq_some_iff.mp h2
      obtain ⟨l2, e2⟩ := List.getElem?_eq_some_iff.mp hk
      exact hj ((List.getElem_inj h.nd).mp (e1.trans e2.symm))
    have q := h.obj j ob b h1 h2
    cases ob with
    | lst xs =>
      obtain ⟨ys, h3, h4⟩ := q
      exact ⟨ys, by rw [upd_ne hne]; exact h3, h4.wr ha⟩
    | dct _ _ =>
      obtain ⟨ys, o, h3, h5, h4⟩ := q
      exact ⟨ys, o, by rw [upd_ne hne]; exact h3, h5, h4.wr ha⟩
    | obj _ _ =>
      obtain ⟨dx, gs, h3, h5, h6, h4⟩ := q
      exact ⟨dx, gs, by rw [upd_ne hne]; exact h3, h5, h6, h4.wr ha⟩
    | lck _ _ =>
      obtain ⟨od, ys, o, h3, h5, h4⟩ := q
      exact ⟨od, ys, o, by rw [upd_ne hne]; exact h3, h5, h4.wr ha⟩
theorem SimH.write {ys : List V} (h : SimH K m H S) {k : Nat} (hk : m.ix[k]? = some a) (r : Rs K m H xs ys) : SimH K m (upd H a (.lst ys)) (S.set k (.lst xs)) :=
  h.writeO hk ⟨ys, upd_same, r.wr (List.mem_of_getElem? hk)⟩
theorem nfrz {u : HO} (e : H a = some u) (hu : ∀ od w, u ≠ .frz od w) : ∀ od w, H a ≠ some (.frz od w) := fun od w q => by
  rw [e] at q
  cases q
  exact hu _ _ rfl
theorem nfrz_lst {ys : List V} (e : H a = some (.lst ys)) : ∀ od w, H a ≠ some (.frz od w) := nfrz e fun _ _ z => by cases z
theorem nfrz_dc {t : Bool} {xs : List (DK × V)} {o : HO} (e : H a = some o) (d : dcO a t xs o) : ∀ od w, H a ≠ some (.frz od w) := nfrz e fun _ _ z => by
  subst z
  rcases d with ⟨_, _, _, d⟩ | ⟨_, _, _, d⟩ <;> cases d
theorem nfrz_ins {C dx : Ad} {gs : List (Str × V)} (e : H a = some (.ins C dx gs)) : ∀ od w, H a ≠ some (.frz od w) := nfrz e fun _ _ z => by cases z
theorem R.newL {ys : List V} (h : SimH K m H S) (hp : H a = none) (r : Rs K m H xs ys) : R K m (upd H a (.lst ys)) (.lst xs) (.ref a) :=
  .lst ⟨upd_same, out_of_none h hp⟩ (r.ext (Ext.new hp))
theorem R.newT {ys : List V} (h : SimH K m H S) (hp : H a = none) (r : Rs K m H xs ys) : R K m (upd H a (.tup ys)) (.tup xs) (.ref a) :=
  .tup (.inl ⟨.inl upd_same, out_of_none h hp⟩) (r.ext (Ext.new hp))
theorem SimH.aside {o : HO} (h : SimH K m H S) (hp : H a = none) : SimH K (m.apart a) (upd H a o) S := by
  refine ⟨h.len, h.nd, fun k ob b h1 h2 => ?_, fun b hb => ?_⟩
  · have q := h.obj k ob b h1 h2
    cases ob with
    | lst xs =>
      obtain ⟨ys, h3, h4⟩ := q
      exact ⟨ys, by rw [upd_ne (ne_of_none h3 hp)]; exact h3, h4.aside hp⟩
    | dct _ _ =>
      obtain ⟨ys, o, h3, h5, h4⟩ := q
      exact ⟨ys, o, by rw [upd_ne (ne_of_none h3 hp)]; exact h3, h5, h4.aside hp⟩
    | obj _ _ =>
      obtain ⟨dx, gs, h3, h5, h6, h4⟩ := q
      exact ⟨dx, gs, by rw [upd_ne (ne_of_none h3 hp)]; exact h3, h5, h6, h4.aside hp⟩
    | lck _ _ =>
      obtain ⟨od, ys, o, h3, h5, h4⟩ := q
      exact ⟨od, ys, o, by rw [upd_ne (ne_of_none h3 hp)]; exact h3, h5, h4.aside hp⟩
  · rcases List.mem_cons.mp hb with e | hb
    · rw [e]
      exact ⟨show a ∉ m.ix from not_mem_of_none h hp, by rw [upd_same]; simp⟩
    · exact ⟨(h.apart b hb).1, (Ext.new (m := m) hp).live b (h.apart b hb).2⟩
theorem SimH.put {o : HO} (h : SimH K (m.apart a) H S) : SimH K (m.apart a) (upd H a o) S := by
  have hm : a ∉ m.ix := (h.apart a List.mem_cons_self).1
  refine ⟨h.len, h.nd, fun k ob b h1 h2 => ?_, fun b hb => ⟨(h.apart b hb).1, ?_⟩⟩
  · have q := h.obj k ob b h1 h2
    have hb : b ≠ a := fun e => hm (by rw [← e]; exact List.mem_of_getElem? h2)
    cases ob with
    | lst xs =>
      obtain ⟨ys, h3, h4⟩ := q
      exact ⟨ys, by rw [upd_ne hb]; exact h3, h4.put⟩
    | dct _ _ =>
      obtain ⟨ys, o, h3, h5, h4⟩ := q
      exact ⟨ys, o, by rw [upd_ne hb]; exact h3, h5, h4.put⟩
    | obj _ _ =>
      obtain ⟨dx, gs, h3, h5, h6, h4⟩ := q
      exact ⟨dx, gs, by rw [upd_ne hb]; exact h3, h5, h6, h4.put⟩
    | lck _ _ =>
      obtain ⟨od, ys, o, h3, h5, h4⟩ := q
      exact ⟨od, ys, o, by rw [upd_ne hb]; exact h3, h5, h4.put⟩
  · by_cases e : b = a
    · rw [e, upd_same]; simp
    · rw [upd_ne e]; exact (h.apart b hb).2
theorem SimH.back (h : SimH K (m.apart a) H S) : SimH K m H S :=
  ⟨h.len, h.nd, fun k ob b h1 h2 => by
    have q := h.obj k ob b h1 h2
    cases ob with
    | lst xs =>
      obtain ⟨ys, h3, h4⟩ := q
      exact ⟨ys, h3, h4.back⟩
    | dct _ _ =>
      obtain ⟨ys, o, h3, h5, h4⟩ := q
      exact ⟨ys, o, h3, h5, h4.back⟩
    | obj _ _ =>
      obtain ⟨dx, gs, h3, h5, h6, h4⟩ := q
      exact ⟨dx, gs, h3, h5, h6, h4.back⟩
    | lck _ _ =>
      obtain ⟨od, ys, o, h3, h5, h4⟩ := q
      exact ⟨od, ys, o, h3, h5, h4.back⟩, fun b hb => h.apart b (List.mem_cons_of_mem _ hb)⟩
end
structure Sit (K : PySem.W.Frag) (m : Mp) (σv : Sv) (S : Hs) (σ : L2.St) (H : Hp) : Prop where
  h : SimH K m H S
  e : SimE K m H σv σ
theorem Sit.ext {K : PySem.W.Frag} {m m' : Mp} {σv : Sv} {S S' : Hs} {σ : L2.St} {H H' : Hp} (s : Sit K m σv S σ H) (x : Ext m H m' H') (h' : SimH K m' H' S') : Sit K m' σv S' σ H' := ⟨h', s.e.ext x⟩
def Post (K : PySem.W.Frag) (m : Mp) (H : Hp) (x : VV) (S' : Hs) (Q : VK) : Prop := ∀ m' H' v, Ext m H m' H' → SimH K m' H' S' → R K m' H' x v → Q v H'
def Posts (K : PySem.W.Frag) (m : Mp) (H : Hp) (xs : List VV) (S' : Hs) (Q : List V → Hp → Prop) : Prop := ∀ m' H' vs, Ext m H m' H' → SimH K m' H' S' → Rs K m' H' xs vs → Q vs H'
def PostB (K : PySem.W.Frag) (m : Mp) (H : Hp) (b : Bool) (S' : Hs) (Q : Bool → Hp → Prop) : Prop := ∀ m' H', Ext m H m' H' → SimH K m' H' S' → Q b H'
section
variable {K : PySem.W.Frag} {m m1 : Mp} {H H1 : Hp} {S S' : Hs} {x : VV} {v : V} {Q : VK}
theorem Post.ext (e : Ext m H m1 H1) (p : Post K m H x S' Q) : Post K m1 H1 x S' Q := fun m' H' v e' h r => p m' H' v (e.trans e') h r
theorem Post.here (p : Post K m H x S Q) (h : SimH K m H S) (r : R K m H x v) : Q v H := p m H v Ext.refl h r
theorem Posts.ext {xs : List VV} {Q : List V → Hp → Prop} (e : Ext m H m1 H1) (p : Posts K m H xs S' Q) : Posts K m1 H1 xs S' Q := fun m' H' v e' h r => p m' H' v (e.trans e') h r
theorem PostB.ext {b : Bool} {Q : Bool → Hp → Prop} (e : Ext m H m1 H1) (p : PostB K m H b S' Q) : PostB K m1 H1 b S' Q := fun m' H' e' h => p m' H' (e.trans e') h
end
structure Wish where
  W : WX
  rx : Mp → Hp → VV → Value → Option Ad → Prop
def PostX (K : PySem.W.Frag) (w : Wish) (m : Mp) (H : Hp) (σ : L2.St) (v : VV) (S' : Hs) : Prop := ∀ m' H' cls d, Ext m H m' H' → SimH K m' H' S' → w.rx m' H' v cls d → w.W cls d σ H'
theorem PostX.ext {K : PySem.W.Frag} {w : Wish} {m m1 : Mp} {H H1 : Hp} {σ : L2.St} {v : VV} {S' : Hs} (e : Ext m H m1 H1) (p : PostX K w m H σ v S') : PostX K w m1 H1 σ v S' := fun m' H' c d e' h r => p m' H' c d (e.trans e') h r
def Res {α : Type} (K : PySem.W.Frag) (w : Wish) (m : Mp) (H : Hp) (σ : L2.St) (o : Out α) (k : α → Hs → Prop) : Prop := match o with
  | .ok x S' => k x S'
  | .exc v S' => PostX K w m H σ v S'
  | .bad => False
section
variable {α β : Type} {K : PySem.W.Frag} {w : Wish} {m m1 : Mp} {H H1 : Hp} {σ : L2.St}
theorem Res.bind {o : Out α} {g : α → Hs → Out β} {k : β → Hs → Prop} (h : Res K w m H σ (o.bind g) k) : Res K w m H σ o fun x S1 => Res K w m H σ (g x S1) k := by
  cases o <;> exact h
theorem Res.of_bind {o : Out α} {g : α → Hs → Out β} {k : β → Hs → Prop} (h : Res K w m H σ o fun x S1 => Res K w m H σ (g x S1) k) : Res K w m H σ (o.bind g) k := by
  cases o <;> exact h
theorem Res.imp {o : Out α} {k k' : α → Hs → Prop} (h : Res K w m H σ o k) (i : ∀ x S1, k x S1 → k' x S1) : Res K w m H σ o k' := by
  cases o with
  | ok x S1 => exact i x S1 h
  | exc v S1 => exact h
  | bad => exact h
theorem Res.ext {o : Out α} {k : α → Hs → Prop} (e : Ext m H m1 H1) (h : Res K w m H σ o k) : Res K w m1 H1 σ o k := by
  cases o with
  | ok x S1 => exact h
  | exc v S1 => exact PostX.ext e h
  | bad => exact h
theorem Res.ok {o : Out α} {k : α → Hs → Prop} (h : Res K w m H σ o k) (n : ∀ v s, o ≠ .exc v s) : ∃ x S', o = .ok x S' ∧ k x S' := by
  cases o with
  | ok x S1 => exact ⟨x, S1, rfl, h⟩
  | exc v S1 => exact absurd rfl (n v S1)
  | bad => exact h.elim
end
theorem lift_noX {α : Type} (o : Option α) (s : Hs) : ∀ v s', lift o s ≠ .exc v s' := by
  intro v s' h
  cases o <;> cases h
def rdE (K : PySem.W.Frag) (w : Wish) (f : Sv → Hs → Out VV) : TE := fun σ H Q => ∃ m σv S, Sit K m σv S σ H ∧ Res K w m H σ (f σv S) fun x S' => Post K m H x S' Q
def rdA (K : PySem.W.Frag) (w : Wish) (f : Sv → Hs → Out (List VV)) : TA := fun σ H Q => ∃ m σv S, Sit K m σv S σ H ∧ Res K w m H σ (f σv S) fun x S' => Posts K m H x S' Q
def rdT (K : PySem.W.Frag) (w : Wish) (f : Sv → Hs → Out Bool) : TT := fun σ H Q => ∃ m σv S, Sit K m σv S σ H ∧ Res K w m H σ (f σv S) fun x S' => PostB K m H x S' Q
theorem PE.imp {X : Cx} {e : Expr} {t t' : TE} (h : PE X e t) (i : ∀ σ H Q, t' σ H Q → t σ H Q) : PE X e t' := ⟨fun pins s σ H Q I q => h.run pins s σ H Q I (i σ H Q q)⟩
theorem PT.imp {X : Cx} {e : Expr} {t t' : TT} (h : PT X e t) (i : ∀ σ H Q, t' σ H Q → t σ H Q) : PT X e t' := ⟨fun pins s σ H Q I q => h.run pins s σ H Q I (i σ H Q q)⟩
theorem PA.imp {X : Cx} {e : List Expr} {t t' : TA} (h : PA X e t) (i : ∀ σ H Q, t' σ H Q → t σ H Q) : PA X e t' := ⟨fun pos pins s σ H Q I q => h.run pos pins s σ H Q I (i σ H Q q)⟩
section
variable {K : PySem.W.Frag} {w : Wish} {m : Mp} {σv : Sv} {S : Hs} {σ : L2.St} {H : Hp}
theorem rd_then {f : Sv → Hs → Out VV} {Q : VK} (s : Sit K m σv S σ H) (e : Res K w m H σ (f σv S) fun x S1 => ∀ m' H' v, Ext m H m' H' → Sit K m' σv S1 σ H' → R K m' H' x v → Q v H') : rdE K w f σ H Q :=
  ⟨m, σv, S, s, e.imp fun x S1 k m' H' v ex h r => k m' H' v ex (s.ext ex h) r⟩
theorem rd_thenA {f : Sv → Hs → Out (List VV)} {Q : List V → Hp → Prop} (s : Sit K m σv S σ H) (e : Res K w m H σ (f σv S) fun x S1 => ∀ m' H' v, Ext m H m' H' → Sit K m' σv S1 σ H' → Rs K m' H' x v → Q v H') : rdA K w f σ H Q :=
  ⟨m, σv, S, s, e.imp fun x S1 k m' H' v ex h r => k m' H' v ex (s.ext ex h) r⟩
theorem rd_thenT {f : Sv → Hs → Out Bool} {Q : Bool → Hp → Prop} (s : Sit K m σv S σ H) (e : Res K w m H σ (f σv S) fun x S1 => ∀ m' H', Ext m H m' H' → Sit K m' σv S1 σ H' → Q x H') : rdT K w f σ H Q :=
  ⟨m, σv, S, s, e.imp fun x S1 k m' H' ex h => k m' H' ex (s.ext ex h)⟩
end
def Op2 (K : PySem.W.Frag) (g : VV → VV → Hs → Out VV) (r : R2) : Prop := ∀ m H S x y v w z S' Q, SimH K m H S → R K m H x v → R K m H y w → g x y S = .ok z S' → Post K m H z S' Q → r v w H Q
def Op1 (K : PySem.W.Frag) (g : VV → Hs → Out VV) (r : V → Hp → VK → Prop) : Prop := ∀ m H S x v z S' Q, SimH K m H S → R K m H x v → g x S = .ok z S' → Post K m H z S' Q → r v H Q
def OpL (K : PySem.W.Frag) (g : List VV → Hs → Out VV) (r : List V → Hp → VK → Prop) : Prop := ∀ m H S x v z S' Q, SimH K m H S → Rs K m H x v → g x S = .ok z S' → Post K m H z S' Q → r v H Q
section
variable {K : PySem.W.Frag} {wi : Wish}
theorem rd_op2 {fa fb : Sv → Hs → Out VV} {g : VV → VV → Hs → Out VV} {r : R2} (h : Op2 K g r) (n : ∀ x y s v s', g x y s ≠ .exc v s') (σ : L2.St) (H : Hp) (Q : VK)
    (q : rdE K wi (fun σ s => (fa σ s).bind fun x s => (fb σ s).bind fun y s => g x y s) σ H Q) : tOp r (rdE K wi fa) (rdE K wi fb) σ H Q := by
  obtain ⟨m, σv, S, s, e⟩ := q
  refine rd_then s (e.bind.imp fun x S1 e1 m1 H1 v x1 s1 r1 => rd_then s1 ((e1.bind.ext x1).imp fun y S2 e2 m2 H2 w x2 s2 r2 => ?_))
  obtain ⟨z, S', e3, p⟩ := e2.ok (n x y S2)
  exact h m2 H2 S2 x y v w z S' Q s2.h (r1.ext x2) r2 e3 ((p.ext x1).ext x2)
theorem rd_op2k {fa fb : Sv → Hs → Out VV} {g : VV → VV → Hs → Out VV} {r : R2} (h : Op2 K g r) {β : Type} {g' : VV → VV → Hs → Out β} {kk : β → Hs → Prop} {m : Mp} {σv : Sv} {S : Hs} {σ : L2.St} {H : Hp} {Q : VK} (s : Sit K m σv S σ H)
    (q : Res K wi m H σ ((fa σv S).bind fun x s => (fb σv s).bind fun y s => g' x y s) kk) (cv : ∀ x y S2, Res K wi m H σ (g' x y S2) kk → ∃ z S', g x y S2 = .ok z S' ∧ Post K m H z S' Q) : tOp r (rdE K wi fa) (rdE K wi fb) σ H Q := by
  refine rd_then s (q.bind.imp fun x S1 e1 m1 H1 v x1 s1 r1 => rd_then s1 ((e1.bind.ext x1).imp fun y S2 e2 m2 H2 w x2 s2 r2 => ?_))
  obtain ⟨z, S', e3, p⟩ := cv x y S2 e2
  exact h m2 H2 S2 x y v w z S' Q s2.h (r1.ext x2) r2 e3 ((p.ext x1).ext x2)
theorem rd_op1 {fa : Sv → Hs → Out VV} {g : VV → Hs → Out VV} {r : V → Hp → VK → Prop} (h : Op1 K g r) (n : ∀ x s v s', g x s ≠ .exc v s') (σ : L2.St) (H : Hp) (Q : VK)
    (q : rdE K wi (fun σ s => (fa σ s).bind fun x s => g x s) σ H Q) : tUn r (rdE K wi fa) σ H Q := by
  obtain ⟨m, σv, S, s, e⟩ := q
  refine rd_then s (e.bind.imp fun x S1 e1 m1 H1 v x1 s1 r1 => ?_)
  obtain ⟨z, S', e3, p⟩ := e1.ok (n x S1)
  exact h m1 H1 S1 x v z S' Q s1.h r1 e3 (p.ext x1)
theorem rd_opL {fa : Sv → Hs → Out (List VV)} {g : List VV → Hs → Out VV} {r : List V → Hp → VK → Prop} (h : OpL K g r) (n : ∀ x s v s', g x s ≠ .exc v s') (σ : L2.St) (H : Hp) (Q : VK)
    (q : rdE K wi (fun σ s => (fa σ s).bind fun x s => g x s) σ H Q) : tCB r (rdA K wi fa) σ H Q := by
  obtain ⟨m, σv, S, s, e⟩ := q
  refine rd_thenA s (e.bind.imp fun x S1 e1 m1 H1 v x1 s1 r1 => ?_)
  obtain ⟨z, S', e3, p⟩ := e1.ok (n x S1)
  exact h m1 H1 S1 x v z S' Q s1.h r1 e3 (p.ext x1)
end
end Tw
set_option linter.all false
set_option autoImplicit false
set_option maxRecDepth 100000
set_option maxHeartbeats 4000000
set_option Elab.async false
namespace Tw
open PySem PySem.Spec PyProof.Rows L2
theorem tuple_mul1 (l : Addr) (items : Array Value) (n : Nat) (dd : Option Addr) (sl : Array (Option Value)) (u : Tok) :
    Meets (Builtin.«tuple.__mul__» ⟨[.ref l, .int 1 u], []⟩) (fun _ R s => s.heap.get? l = some { cls := .type "tuple", dict := dd, data := .seq items n, slots := sl } ∧ R (.ok (.ret (Value.ref l))) s) :=
  .of_wp fun prog w A R s h => by
    obtain ⟨hp, g, d, tk, os⟩ := s
    obtain ⟨hl, h⟩ := h
    have f1 := AutoSeq1.idx_int
    wp_walk using wpAny_loadPart' hl
    repeat (first
      | (refine wpAny_ite_false (by decide) ?_; wp_walk using wpAny_loadPart' hl)
      | (refine wpAny_ite_true (by simp) ?_; wp_walk using wpAny_loadPart' hl))
    exact ⟨_, rfl, h⟩
theorem tuple_mul0 (l : Addr) (items : Array Value) (n : Nat) (dd : Option Addr) (sl : Array (Option Value)) (x : Int) (u : Tok) (c0 : (decide (x < -(2 ^ 63)) || decide (x ≥ 2 ^ 63)) = false) (c1 : (items.isEmpty || x == 1) = false) (c2 : (decide (x ≤ 0) || items.isEmpty) = true) :
    Meets (Builtin.«tuple.__mul__» ⟨[.ref l, .int x u], []⟩) (fun _ R s => s.heap.get? l = some { cls := .type "tuple", dict := dd, data := .seq items n, slots := sl } ∧
      R (.ok (.ret (Value.ref s.heap.objs.size))) { s with heap := s.heap.push { cls := Value.type "tuple", data := Data.seq #[] }, toks := s.toks }) :=
  .of_wp fun prog w A R s h => by
    obtain ⟨hp, g, d, tk, os⟩ := s
    obtain ⟨hl, h⟩ := h
    have f1 := AutoSeq1.idx_int
    wp_walk using wpAny_loadPart' hl
    repeat (first
      | (refine wpAny_ite_false (decide_eq_false (by rw [c0]; exact Bool.false_ne_true)) ?_; wp_walk using wpAny_loadPart' hl)
      | (refine wpAny_ite_false (decide_eq_false (by rw [c1]; exact Bool.false_ne_true)) ?_; wp_walk using wpAny_loadPart' hl)
      | (refine wpAny_ite_true (decide_eq_true (by rw [c2])) ?_; wp_walk using wpAny_loadPart' hl))
    exact ⟨_, rfl, h⟩
def rRepA (K : PySem.W.Frag) : R2 := fun x y H Q => ∃ l k xs, x = .ref l ∧ y = .int k ∧ SqT K H l xs ∧ xs ≠ [] ∧ ((k = 1 ∧ Q (.ref l) H) ∨ (-(2 ^ 63) ≤ k ∧ k ≤ 0 ∧ ∀ p, H p = none → Q (.ref p) (upd H p (.tup []))))
section
variable {X : Cx}
theorem op_repA : OpR X (binaryOp .Mult) (rRepA X.K) := by
  intro pins s σ H x y v u Q I rx ry h
  obtain ⟨l, k, xs, rfl, rfl, hT, hne, q⟩ := h
  cases rx
  obtain ⟨t, rfl⟩ := ry
  obtain ⟨its, r, ⟨⟨cls, dd, data, sl⟩, ho, hc, n, hd⟩, hs⟩ := I.tuple hT
  simp only at hc hd
  subst hc hd
  have hle : its.length = xs.length := r.length.symm
  have hn : its ≠ [] := fun e => hne (by
    rw [e] at hle
    exact List.eq_nil_of_length_eq_zero hle.symm)
  have hi : its.toArray.isEmpty = false := by
    cases its with
    | nil => exact absurd rfl hn
    | cons a b => rfl
  rcases q with ⟨rfl, q⟩ | ⟨h1, h2, q⟩
  · refine wpAny_binaryOp_repeat_ref (T := "tuple") (U := "int") (by decide) ⟨_, ho, rfl⟩ (fun s' => typeIs_int s' 1 t) noFill_tuple_mul F.fills_int_mul F.slot_int_rmul repeat_tuple F.slot_int_index.lookup
      (call_meets F.slot_int_rmul (typeIs_int s 1 t) F.entry_int_rmul (F.args_int_rmul_2 _ _) (int_rmul_tuple 1 t l its.toArray n dd sl)
        ⟨ho, rfl, ⟨_, ho, rfl⟩, call_meets F.slot_tuple_mul ⟨_, ho, rfl⟩ F.entry_tuple_mul (F.args_tuple_mul_2 _ _) (tuple_mul1 l its.toArray n dd sl t) ⟨ho, ?_⟩⟩)
    exact ⟨.ref l, H, I, rfl, q⟩
  · have c0 : (decide (k < -(2 ^ 63)) || decide (k ≥ 2 ^ 63)) = false := by
      rw [decide_eq_false (by omega), decide_eq_false (by omega)] <;> rfl
    have c1 : (its.toArray.isEmpty || k == 1) = false := by
      rw [hi, Bool.false_or]
      exact beq_eq_false_iff_ne.mpr (by omega)
    have c2 : (decide (k ≤ 0) || its.toArray.isEmpty) = true := by
      rw [decide_eq_true h2]
      rfl
    refine wpAny_binaryOp_repeat_ref (T := "tuple") (U := "int") (by decide) ⟨_, ho, rfl⟩ (fun s' => typeIs_int s' k t) noFill_tuple_mul F.fills_int_mul F.slot_int_rmul repeat_tuple F.slot_int_index.lookup
      (call_meets F.slot_int_rmul (typeIs_int s k t) F.entry_int_rmul (F.args_int_rmul_2 _ _) (int_rmul_tuple k t l its.toArray n dd sl)
        ⟨ho, rfl, ⟨_, ho, rfl⟩, call_meets F.slot_tuple_mul ⟨_, ho, rfl⟩ F.entry_tuple_mul (F.args_tuple_mul_2 _ _) (tuple_mul0 l its.toArray n dd sl k t c0 c1 c2) ⟨ho, ?_⟩⟩)
    refine ⟨.ref s.heap.objs.size, _, I.laid (t' := s.toks) (o := .tup []) (fun b ob q => Heap.get?_push_of_some _ q) (Nat.le_refl _) ?_, rfl, q _ (I.hok.fresh (Nat.le_refl _))⟩
    exact ⟨Nat.zero_le _, _, .nil, IsTup.new _ _⟩
end
end Tw
set_option Elab.async false
set_option linter.all false
set_option autoImplicit false
set_option maxRecDepth 100000
namespace Tw
open PySem PySem.Spec PyProof.Rows L2
section
variable {prog : Program} {w : World} {K : Type} [DecidableEq K] {knd : HeapKind prog w K} {A : Around} {E : Value → Shared → Prop} {s : Shared}
theorem kt_dictH {o : Addr} {more : List (K × Addr × Value)} {Q : Value → Shared → Prop} (hu : knd.room A.in1.in1) (hoS : (o == sysModules) = false) (ho : s.heap.DictOfH knd o more) (his : ∀ h', (∀ b u, s.heap.get? b = some u → h'.get? b = some u) → ∀ x ∈ more, knd.is h' x.1 x.2.1) (hty : ∀ h', (∀ b u, s.heap.get? b = some u → h'.get? b = some u) → ∀ x ∈ more, Shared.TypeIs { s with heap := h' } (.ref x.2.1) "tuple") (hap : (more.map fun x => knd.hash x.1).Nodup) (hsz : more.length ≤ sizeLine)
    (h : ∀ h', h'.DictOfH knd s.heap.objs.size more → Heap.SameBut s.heap.objs.size (s.heap.push { cls := .type "dict", data := .dict #[] }) h' → Q (.ref s.heap.objs.size) { s with heap := h' }) :
    wpAny (model prog w) A (call (.type "dict") [.ref o]) Q E s := by
  refine callType_codes (Q₁ := fun obj s₁ => obj = .ref s.heap.objs.size ∧ s₁ = { s with heap := s.heap.push { cls := .type "dict", data := .dict #[] } }) F.kt_called_dict (F.kt_typeCall_dict_1 _) F.entry_dict_init (kt_code_dict_new _ ⟨rfl, rfl⟩) ?_
  rintro obj s₁ ⟨rfl, rfl⟩
  have kp : ∀ b u, s.heap.get? b = some u → (s.heap.push { cls := .type "dict", data := .dict #[] }).get? b = some u := fun b u e => Heap.get?_push_of_some _ e
  have hnew : (s.heap.push { cls := .type "dict", data := .dict #[] }).DictOfH knd s.heap.objs.size [] := Heap.DictOfH.new s.heap
  have ho' : (s.heap.push { cls := .type "dict", data := .dict #[] }).DictOfH knd o more := by
    obtain ⟨ob, es, ep, e1, e2, e3, e4, _, e6⟩ := ho
    exact ⟨ob, es, ep, kp _ _ e1, e2, e3, e4, his _ kp, e6⟩
  have hdo : s.heap.objs.size ≠ o := by
    obtain ⟨_, _, _, hg, _⟩ := ho
    exact fun e => absurd (Heap.lt_size hg) (by rw [e]; exact Nat.lt_irrefl _)
  refine ⟨hnew.typeIs, F.args_dict_init_2 _ _, ?_⟩
  unfold Builtin.«dict.__init__»
  refine wpAny_bind ?_
  unfold Builtin.Dict.selfAndRest
  refine wpAny_bind (wpAny_notOrdered_dict hnew.typeIs ?_)
  show wpAny _ _ (pure (s.heap.objs.size, [Value.ref o])) _ _ _
  refine wpAny_pure ?_
  show wpAny _ _ (Builtin.Dict.updateFrom "dict.__init__" s.heap.objs.size (.ref o) [] .none) _ _ _
  unfold Builtin.Dict.updateFrom
  refine wpAny_bind (wpAny_typeOf ho'.typeIs ?_)
  rw [if_neg (by decide)]
  refine wpAny_bind ?_
  unfold Builtin.Dict.merge
  refine wpAny_bind ?_
  unfold Builtin.Dict.readDirectly
  refine wpAny_bind (wpAny_isInstance ho'.typeIs isSubtype_dict_dict ?_)
  simp only [Bool.not_true, Bool.false_eq_true, if_false]
  refine wpAny_bind (wpAny_specialOf ho'.typeIs F.slot_dict_iter.lookup (wpAny_pure ?_))
  simp only [beq_self_eq_true, if_true]
  refine wpAny_bind (wpAny_pure ?_)
  refine wpAny_mergeDict_heap (hsz := by simpa using hsz) hu hdo hoS hnew ho' (.inr ⟨hty _ kp, hap⟩) fun h' hd' _ hs' => ?_
  show wpAny _ _ (Builtin.Dict.addKeywords s.heap.objs.size [] >>= _) _ _ _
  rw [storedAllH_nil_of_nodup more ho.nodup] at hd'
  exact wpAny_bind (wpAny_pure (wpAny_pure ⟨rfl, h h' hd' hs'⟩))
end
section
variable {X : Cx} {pins : List (Addr × Obj)} {σ : L2.St} {H : Hp} {s : Shared} {a : Ad} {xs : Prs}
def rDictN (K : PySem.W.Frag) : List V → Hp → VK → Prop := fun vs H Q => ∃ a xs, vs = [.ref a] ∧ H a = some (dicO a xs) ∧ (∀ x ∈ xs, KeyAt K H x.1 x.2.1) ∧ (xs.map fun x => hash0 x.1).Nodup ∧ ∀ p, H p = none → Q (.ref p) (upd H p (dicO p xs))
theorem key_tup (I : Inv X pins σ H s) {k : KF} {b : Ad} (h : KeyAt X.K H k b) : s.TypeIs (.ref b) "tuple" := by
  obtain ⟨its, r, ⟨o, h1, h2, n, h3⟩, z⟩ := I.tuple h
  exact ⟨o, h1, h2⟩
theorem zsOf_mem {xs : Prs} {ys : List (KF × Ad × Value)} (q : Paired PR xs ys) : ∀ z ∈ zsOf ys, ∃ x ∈ xs, z.1 = kN x.1 ∧ z.2.1 = x.2.1 := by
  intro z hz
  obtain ⟨y, hy, rfl⟩ := List.mem_map.mp hz
  clear hz
  induction q with
  | nil => exact nomatch hy
  | @cons p q ps qs hq t ih =>
    rcases List.mem_cons.mp hy with e | hy
    · subst e
      exact ⟨p, List.mem_cons_self, by rw [hq.1], hq.2.1.symm⟩
    · obtain ⟨x, hx, r⟩ := ih hy
      exact ⟨x, List.mem_cons_of_mem _ hx, r⟩
theorem zs_hash (P : Program) (w : World) {xs : Prs} {ys : List (KF × Ad × Value)} (q : Paired PR xs ys) : ((zsOf ys).map fun z => (nestedKind P w).hash z.1) = xs.map fun x => hash0 x.1 := by
  unfold zsOf
  rw [List.map_map]
  induction q with
  | nil => rfl
  | @cons p q ps qs hq t ih =>
    rw [List.map_cons, List.map_cons, ih]
    congr 1
    show (kN q.1).hash w = _
    rw [hash_k, ← hq.1]
theorem call_dictN (hu : X.A.units + 65 < cLine) : CallR X (.type "dict") (rDictN X.K) := by
  intro pins s σ H vs us Q I r h
  obtain ⟨a, xs, rfl, e, hk, hn, q⟩ := h
  obtain ⟨u, rfl, rx⟩ := vals1 r
  cases rx
  obtain ⟨z, hd, ys, pr, dd⟩ := dic_of I e hk
  have hz : (zsOf ys).length ≤ sizeLine := by unfold zsOf; rw [List.length_map, ← pairs_len pr]; exact z
  have st : ∀ h', (∀ b u, s.heap.get? b = some u → h'.get? b = some u) → ∀ x ∈ zsOf ys, (nestedKind X.prog X.w).is h' x.1 x.2.1 ∧ Shared.TypeIs { s with heap := h' } (.ref x.2.1) "tuple" := fun h' kp z hz => by
    obtain ⟨x, hx, e1, e2⟩ := zsOf_mem pr z hz
    have I' : Inv X pins σ H { s with heap := h' } := I.kept (t' := s.toks) kp
    rw [e1, e2]
    exact ⟨key_is I' (hk x hx), key_tup I' (hk x hx)⟩
  refine kt_dictH (knd := nestedKind X.prog X.w) ?_ hd dd (fun h' kp x hx => (st h' kp x hx).1) (fun h' kp x hx => (st h' kp x hx).2) (by rw [zs_hash X.prog X.w pr]; exact hn) hz fun h' dd' hs => ?_
  · show X.A.in1.in1.units + 8 < cLine
    show X.A.units + 1 + 1 + 8 < cLine
    omega
  have kp : ∀ b u, s.heap.get? b = some u → h'.get? b = some u := fun b u e => (hs.2 b (Nat.ne_of_lt (Heap.lt_size e))).trans (Heap.get?_push_of_some _ e)
  have hb : (s.heap.objs.size == sysModules) = false := beq_false_of_ne (Nat.ne_of_gt I.big)
  exact ⟨.ref s.heap.objs.size, _, I.laid (t' := s.toks) kp (Nat.le_refl _) (dicO_new (dicR_of z hb pr dd')), rfl, q _ (I.hok.fresh (Nat.le_refl _))⟩
def rDictK : List V → Hp → VK → Prop := fun vs H Q => ∃ (a : Ad) (kvs : List (L2.Key × V)), vs = [.ref a] ∧ H a = some (.dK kvs) ∧ ∀ p, H p = none → Q (.ref p) (upd H p (.dK kvs))
theorem call_dictK : CallR X (.type "dict") rDictK := by
  intro pins s σ H vs us Q I r h
  obtain ⟨a, kvs, rfl, e, q⟩ := h
  obtain ⟨u, rfl, rx⟩ := vals1 r
  cases rx
  exact d_copyOf I (.inl e) fun p s' hp I' => ⟨.ref p, _, I', rfl, q p hp⟩
def rListN : List V → Hp → VK → Prop := fun vs H Q => ∃ (a : Ad) (xs : Prs), vs = [.ref a] ∧ H a = some (dicO a xs) ∧ ∀ p, H p = none → Q (.ref p) (upd H p (.lst (xs.map fun x => V.ref x.2.1)))
theorem entries_of {xs : Prs} {ys : List (KF × Ad × Value)} {es : Array DictEntry} (q : Paired PR xs ys) (he : es.toList = ys.map (fun y => (⟨hash0 y.1, .ref y.2.1, y.2.2⟩ : DictEntry))) : es.size = xs.length ∧ ∀ (i : Nat) (x : KF × Ad × V), xs[i]? = some x → ∃ en : DictEntry, es[i]? = some en ∧ en.key = .ref x.2.1 ∧ RelV x.2.2 en.val := by
  have l1 : es.size = ys.length := by rw [← Array.length_toList, he, List.length_map]
  refine ⟨by rw [l1, pairs_len q], fun i x hx => ?_⟩
  obtain ⟨y, hy, r⟩ := paired_get q hx
  refine ⟨⟨hash0 y.1, .ref y.2.1, y.2.2⟩, ?_, ?_, r.2.2⟩
  · rw [← Array.getElem?_toList, he, List.getElem?_map, hy]
    rfl
  · rw [r.2.1]
theorem call_listN (hc : X.calm = true) : CallR X (.type "list") rListN := by
  intro pins s σ H vs us Q I r h
  obtain ⟨a, xs, rfl, e, q⟩ := h
  obtain ⟨u, rfl, rx⟩ := vals1 r
  cases rx
  obtain ⟨⟨z, hs, ys, pr, o, es, ep, ho, hx, hdt, he, hn⟩, _⟩ := (show ObjOk X.prog X.w H s.heap a (dicO a xs) from I.hok a _ e)
  obtain ⟨l1, en⟩ := entries_of pr he
  refine PySem.W.kdl_call (kdl_raw hs hx hdt) (I.ok.hd hc) ho (by omega) fun h' tk acc' c' kp e it => ?_
  have ea : acc'.toList = (xs.map fun x => x.2.1).map Value.ref := by
    have hl : acc'.toList.length = xs.length := by rw [Array.length_toList, it.1]; exact l1
    apply List.ext_getElem?
    intro j
    rw [List.getElem?_map, List.getElem?_map]
    cases hj : acc'.toList[j]? with
    | none =>
      have h1 := List.getElem?_eq_none_iff.mp hj
      rw [List.getElem?_eq_none (by omega)]
      rfl
    | some v =>
      obtain ⟨en', hen, hv⟩ := it.2 j v (by rw [← Array.getElem?_toList]; exact hj)
      have hlt : j < xs.length := by
        have := (List.getElem?_eq_some_iff.mp hj).1
        omega
      obtain ⟨en2, h2, h3, _⟩ := en j xs[j] (List.getElem?_eq_getElem hlt)
      rw [hen] at h2
      cases h2
      rw [List.getElem?_eq_getElem hlt, hv, h3]
      rfl
  have rv : Vals (xs.map fun x => V.ref x.2.1) acc'.toList := by
    rw [ea]
    have := vals_refs (xs.map fun x => x.2.1)
    rw [List.map_map] at this
    exact this
  have hz : (xs.map fun x => V.ref x.2.1).length ≤ sizeLine := by rw [List.length_map]; omega
  exact ⟨.ref s.heap.objs.size, _, I.laid (t' := tk) (o := .lst (xs.map fun x => V.ref x.2.1)) kp (Nat.le_refl _) ⟨hz, acc'.toList, c', rv, by rw [Array.toArray_toList]; exact e⟩, rfl, q _ (I.hok.fresh (Nat.le_refl _))⟩
def rLenN (K : PySem.W.Frag) : List V → Hp → VK → Prop := fun vs H Q => ∃ (a : Ad) (xs : Prs), vs = [.ref a] ∧ H a = some (dicO a xs) ∧ (∀ x ∈ xs, KeyAt K H x.1 x.2.1) ∧ Q (.int xs.length) H
theorem call_lenN : CallR X (.builtin "len") (rLenN X.K) := by
  intro pins s σ H vs us Q I r h
  obtain ⟨a, xs, rfl, e, hk, q⟩ := h
  obtain ⟨u, rfl, rx⟩ := vals1 r
  cases rx
  obtain ⟨z, hd, ys, pr, dd⟩ := dic_of I e hk
  have hz : (zsOf ys).length = xs.length := by unfold zsOf; rw [List.length_map, ← pairs_len pr]
  refine call_len_dictH hd dd (by rw [hz]; rw [sizeLine_eq] at z; omega) ?_
  rw [hz]
  exact ⟨.int xs.length, H, I.tok _, ⟨_, rfl⟩, q⟩
theorem Inv.frzN {d : Ad} {o : Obj} (I : Inv X pins σ H s) (h : H d = some (.frz o (dicO d xs))) : (d == sysModules) = false ∧ s.heap.get? d = some o ∧ o.ExactDict ∧ ∃ (es : Array DictEntry) (ep : Nat), o.data = .dict es ep ∧ es.size = xs.length ∧
    ∀ (i : Nat) (x : KF × Ad × V), xs[i]? = some x → ∃ en : DictEntry, es[i]? = some en ∧ en.key = .ref x.2.1 ∧ RelV x.2.2 en.val := by
  obtain ⟨hd, ⟨z, hs, ys, pr, o', es, ep, ho, hx, hdt, he, hn⟩, _⟩ := I.hok d _ h
  rw [hd] at ho
  cases ho
  obtain ⟨l1, en⟩ := entries_of pr he
  exact ⟨hs, hd, hx, es, ep, hdt, l1, en⟩
def ItkN (d : Ad) (o : Obj) (xs : Prs) : L2.It :=
  ⟨fun i H => H d = some (.frz o (dicO d xs)) ∧ i < xs.length, fun i H v H' => H' = H ∧ ∃ x, xs[i]? = some x ∧ v = .ref x.2.1, fun i H => H d = some (.frz o (dicO d xs)) ∧ xs.length ≤ i⟩
def ItiN (d : Ad) (o : Obj) (xs : Prs) : L2.It :=
  ⟨fun i H => H d = some (.frz o (dicO d xs)) ∧ i < xs.length, fun i H v H' => ∃ T x, xs[i]? = some x ∧ v = .ref T ∧ H T = none ∧ H' = upd H T (.tup [.ref x.2.1, x.2.2]), fun i H => H d = some (.frz o (dicO d xs)) ∧ xs.length ≤ i⟩
end
section
variable {P : Program} {w : World} {K : PySem.W.Frag} {tg : Expr} {d : Ad} {o : Obj} {es : Array DictEntry} {ep : Nat} {xs : Prs}
theorem turn_keysN (it : Ad) (hod : o.data = .dict es ep) : Turn P w K tg (ItkN d o xs) [it] it (fun i h => h.IsKeyIter it d i xs.length ep) where
  mem := by simp
  obj := fun i h st b hb => by
    have e : b = it := by simpa using hb
    subst e
    obtain ⟨oi, e, c, dd⟩ := st
    exact ⟨oi, e, fun v z => by rw [dd] at z; cases z⟩
  keep := fun i h h' st k => st.at fun oi e => k it (by simp) oi e
  item := by
    intro X hP hw hK hc i pins s σ H E I hf st hg
    subst hP hw hK
    obtain ⟨hd, hi⟩ := hg
    obtain ⟨f0, f1, f2, f3, f4, f5⟩ := hf it (by simp)
    obtain ⟨hs, hgd, hx, es', ep', hdt, hsz, ent⟩ := Inv.frzN I hd
    obtain ⟨rfl, rfl⟩ := dict_ep hod hdt
    obtain ⟨x, hxi⟩ : ∃ p, xs[i]? = some p := ⟨xs[i], List.getElem?_eq_getElem hi⟩
    obtain ⟨en, hen, hkey, _⟩ := ent i x hxi
    refine next_key_item st hgd hdt hsz hen fun h' st' sb => ?_
    have I1 : Inv X pins σ H { s with heap := h' } := I.turned (t' := s.toks) (fun b ob hb e => (sb.2 b hb).trans e) f0 f1 f3 f4 f5
    obtain ⟨oi, e, c, dd⟩ := id st'
    exact ⟨en.key, rfl, go_of (s := { s with heap := h' }) e c dd (by decide) ⟨.ref x.2.1, H, I1, hkey, ⟨rfl, x, hxi, rfl⟩, st', fun b hb => (hf b hb).1⟩⟩
  done := by
    intro X hP hw hK hc i pins s σ H E I hf st hg
    subst hP hw hK
    obtain ⟨hd, hi⟩ := hg
    obtain ⟨f0, f1, f2, f3, f4, f5⟩ := hf it (by simp)
    obtain ⟨hs, hgd, hx, es', ep', hdt, hsz, ent⟩ := Inv.frzN I hd
    obtain ⟨rfl, rfl⟩ := dict_ep hod hdt
    exact next_key_end (I.ok.hd hc) st hgd hdt hsz hi fun h' eb => ⟨rfl, I.turned (t' := s.toks) (fun b ob hb e => eb b ob hb e) f0 f1 f3 f4 f5⟩
  self := fun A i s Q E st h => by
    refine wpAny_pyIter_slot st.typeIs F.slot_dict_keyiterator_iter (wpAny_call_entry F.slot_dict_keyiterator_iter st.typeIs F.entry_dict_keyiterator_iter ?_ (F.args_dict_keyiterator_iter_1 _))
    show wpAny _ _ (ret (.ref it)) _ _ s
    exact wpAny_pure ⟨_, rfl, "dict_keyiterator", _, st.typeIs, F.slot_dict_keyiterator_next.lookup, h⟩
theorem turn_itemsN {elts : List Expr} {kk : Nat} {tpos : Pos} (it : Ad) (hod : o.data = .dict es ep) :
    Turn P w K (.Tuple elts kk tpos) (ItiN d o xs) [it] it (fun i h => ∃ ok ov, IsItemIter h it d i xs.length ep ok ov) where
  mem := by simp
  obj := fun i h st b hb => by
    have e : b = it := by simpa using hb
    subst e
    obtain ⟨ok, ov, e⟩ := st
    exact ⟨_, e, fun v z => nomatch z⟩
  keep := fun i h h' st k => let ⟨ok, ov, e⟩ := st; ⟨ok, ov, k it (by simp) _ e⟩
  item := by
    intro X hP hw hK hc i pins s σ H E I hf st hg
    subst hP hw hK
    obtain ⟨hd, hi⟩ := hg
    obtain ⟨hs, hgd, hx, es', ep', hdt, hsz, ent⟩ := Inv.frzN I hd
    obtain ⟨rfl, rfl⟩ := dict_ep hod hdt
    obtain ⟨x, hxi⟩ : ∃ p, xs[i]? = some p := ⟨xs[i], List.getElem?_eq_getElem hi⟩
    obtain ⟨en, hen, hkey, hval⟩ := ent i x hxi
    obtain ⟨ok, ov, he⟩ := st
    have hlt : it < s.heap.objs.size := Heap.lt_size he
    obtain ⟨hi2, hen2⟩ := Array.getElem?_eq_some_iff.mp hen
    rw [← hsz] at he
    refine DT.nextI he ⟨o, hgd, hx, hdt⟩ hi2 fun h' ho hT hz hk => ?_
    rw [hen2] at ho hT
    refine ⟨_, rfl, wpAny_letOwnedTupleGo_items (s := { s with heap := h' }) ho fun h'' he' sb => ?_⟩
    have hT2 : h''.get? s.heap.objs.size = some { cls := .type "tuple", data := .seq #[en.key, en.val] } := (sb.2 _ (Nat.ne_of_gt hlt)).trans hT
    have new : ObjOk X.prog X.w (upd H s.heap.objs.size (.tup [.ref x.2.1, x.2.2])) h'' s.heap.objs.size (.tup [.ref x.2.1, x.2.2]) :=
      ⟨by show 2 ≤ sizeLine; decide, [en.key, en.val], .cons hkey (.cons hval .nil), ⟨_, hT2, rfl, _, rfl⟩⟩
    have I1 : Inv X pins σ (upd H s.heap.objs.size (.tup [.ref x.2.1, x.2.2])) { s with heap := h'' } :=
      I.turnedNew (t' := s.toks) (ch := [it]) (fun b ob hb e => (sb.2 b (by simpa using hb)).trans (hk b ob (by simpa using hb) e)) hf (Nat.le_refl _) new
    refine ⟨.ref s.heap.objs.size, _, I1, rfl, ⟨_, x, hxi, rfl, I.hok.fresh (Nat.le_refl _), rfl⟩, ⟨en.key, en.val, ?_⟩, fun b hb => ?_⟩
    · rw [← hsz]; exact he'
    · have e : b = it := by simpa using hb
      rw [e, upd_ne (Nat.ne_of_lt hlt)]
      exact (hf it (by simp)).1
  done := by
    intro X hP hw hK hc i pins s σ H E I hf st hg
    subst hP hw hK
    obtain ⟨hd, hi⟩ := hg
    obtain ⟨f0, f1, f2, f3, f4, f5⟩ := hf it (by simp)
    obtain ⟨hs, hgd, hx, es', ep', hdt, hsz, ent⟩ := Inv.frzN I hd
    obtain ⟨rfl, rfl⟩ := dict_ep hod hdt
    obtain ⟨ok, ov, he⟩ := st
    rw [← hsz] at he
    exact DT.endI (I.ok.hd hc) he ⟨o, hgd, hx, hdt⟩ (by omega) fun h' eb => ⟨rfl, I.turned (t' := s.toks) (fun b ob hb e => eb b ob hb e) f0 f1 f3 f4 f5⟩
  self := fun A i s Q E st h => let ⟨_, _, e⟩ := st; PySem.W.kcp_self e h
end
section
variable {X : Cx} {tg e : Expr} {td : TE} {apos cpos : Pos}
def iKeysN (td : TE) : TI := fun σ H R => td σ H fun x H1 => ∃ d o xs, x = .ref d ∧ H1 d = some (.frz o (dicO d xs)) ∧ R (ItkN d o xs) H1
def iItemsN (td : TE) : TI := fun σ H R => td σ H fun x H1 => ∃ d o xs, x = .ref d ∧ H1 d = some (.frz o (dicO d xs)) ∧ R (ItiN d o xs) H1
theorem pi_keysN (he : PE X e td) : PI X tg e (iKeysN td) := by
  refine ⟨fun pins s σ H R I h => ?_⟩
  refine thn (he.run pins s σ H _ I h) fun u s1 ⟨x, H1, I1, rx, d, o, xs, ex, hd, q⟩ => ?_
  subst ex
  obtain rfl : u = Value.ref d := rx
  obtain ⟨hs, hgd, hx, es, ep, hdt, hsz, ent⟩ := Inv.frzN I1 hd
  refine iter_keys hs hgd hx hdt (pi_one (tk := s1.toks) I1 _ (turn_keysN _ hdt) ⟨_, Heap.get?_push_size _ rfl, rfl, ?_⟩ q)
  rw [hsz] <;> rfl
theorem pi_itemsN {elts : List Expr} {kk : Nat} {tpos : Pos} (he : PE X e td) (hbase : attributeBase e "items" X.env (eval e X.env) = eval e X.env := by rfl) (hline : (apos.endLine == cpos.line) = true := by rfl) :
    PI X (.Tuple elts kk tpos) (.Call (.Attribute e "items" apos) [] [] cpos) (iItemsN td) := by
  refine ⟨fun pins s σ H R I h => ?_⟩
  refine wpAny_Call_method (T := "dict") (id := "dict.items") hbase rfl hline F.plainAttrs_dict F.slot_dict_items F.type_dict_items (thn (he.run pins s σ H _ I h) fun u s1 ⟨x, H1, I1, rx, d, o, xs, ex, hd, q⟩ => ?_)
  subst ex
  obtain rfl : u = Value.ref d := rx
  obtain ⟨hs, hgd, hx, es, ep, hdt, hsz, ent⟩ := Inv.frzN I1 hd
  have raw : DT.Raw s1.heap d es ep := ⟨o, hgd, hx, hdt⟩
  refine ⟨raw.typeIs, ?_, ?_⟩
  · exact fun a e => by cases e; exact ⟨o, hgd, hx.2.1⟩
  have I2 : Inv X pins σ H1 { s1 with heap := s1.heap.push { cls := .type "dict_items", data := .fields #[.ref d] } } := I1.kept (t' := s1.toks) fun b ob q => Heap.get?_push_of_some _ q
  have fin : wpAny (model X.prog X.w) X.A (pyIter (.ref s1.heap.objs.size)) (PIE X pins σ (.Tuple elts kk tpos) R) X.xe { s1 with heap := s1.heap.push { cls := .type "dict_items", data := .fields #[.ref d] } } := by
    refine DT.iterI (d := d) ⟨_, Heap.get?_push_size _ rfl, rfl, rfl⟩ (raw.push _) (pi_one (tk := s1.toks) I2 _ (turn_itemsN _ hdt) ⟨.none, .none, ?_⟩ q)
    rw [← hsz]
    exact Heap.get?_push_size _ rfl
  show wpAny _ _ (callWith cpos (.builtin "dict.items") [.ref d] [] []) _ X.xe s1
  exact method_meetsIn F.slot_dict_items F.entry_dict_items rfl (PySem.evalArgs_none ⟨rfl, raw.typeIs, F.args_dict_items_1 _, _, DT.meetsItems (es := es) (ep := ep) hs, ⟨raw, fin⟩⟩)
end
section
variable {X : Cx} {pins : List (Addr × Obj)} {σ : L2.St} {H : Hp} {s : Shared}
theorem Inv.most {h' : Heap} {t' : Nat} (I : Inv X pins σ H s) (k : ∀ b o, b ≠ X.env.locals → s.heap.get? b = some o → h'.get? b = some o) (ns : ∀ m, s.heap.Ns X.env.locals m → h'.Ns X.env.locals m) : Inv X pins σ H { s with heap := h', toks := t' } := by
  have neL : ∀ {b : Ad} {u : HO}, H b = some u → b ≠ X.env.locals := fun {b u} e z => by
    rw [z, I.free] at e
    cases e
  refine I.step (g' := s.gens) (d' := s.drawn) (ch := []) (fun _ z => nomatch z) (fun b o hb _ _ e _ => k b o hb e) (fun b o hb _ _ e _ => ⟨o.slots, k b o hb e⟩) (fun _ _ _ _ n => n) (fun b o _ e => ?_) (fun _ _ e => e) (fun _ _ _ e => e) (fun b ps e => ⟨#[], by rw [e]; simp⟩) ns (fun b u e => ?_) I.bare
  · by_cases hb : b = X.env.locals
    · obtain ⟨m, hm, _⟩ := I.loc
      obtain ⟨o', _, _, e', _⟩ := ns m hm
      exact ⟨o', hb ▸ e'⟩
    · exact ⟨o, k b o hb e⟩
  · refine (I.hok b u e).stay (fun c v hc q => k c v ?_ q) (fun _ q => q) fun _ _ q => q
    rcases hc with z | z
    · rw [z]; exact neL e
    · exact neL z
theorem inv_of_news {m : Str → Option Value} {h' : Heap} {t' : Nat} {news : List (Ad × Obj)} (I : Inv X pins σ H s) (F0 : Fr X.base X.env.locals s.heap m) (F : Fr X.base X.env.locals h' m) (N : News X.base X.env.locals h' news) (sub : ∀ p ∈ allNews X.base s.heap X.env.locals, p ∈ news) : Inv X pins σ H { s with heap := h', toks := t' } := by
  refine Inv.most I (fun b o hb e => ?_) fun m' hm => ?_
  · cases q : X.base.get? b with
    | some u =>
      have := F0.keep b u q
      rw [e] at this
      cases this
      exact F.keep b _ q
    | none => exact (N (b, o) (sub _ (mem_allNews hb q e))).1
  · rw [SlX.ns_only hm F0.ns]
    exact F.ns
def IsMin (ls : List Nat) (i : Nat) : Prop := ∀ j, j < ls.length → ls.getD i 0 ≤ ls.getD j 0 ∧ (j < i → ls.getD i 0 < ls.getD j 0)
def tMinLen (K : PySem.W.Frag) (te : TE) : TE := fun σ H Q => te σ H fun x H1 => ∃ (a : Ad) (vs : List V) (ls : List Nat), x = V.ref a ∧ SqL K H1 a vs ∧ 0 < vs.length ∧ ls.length = vs.length ∧
  (∀ (i : Nat) (v : V), vs[i]? = some v → ∃ (b : Ad) (ys : List V), v = V.ref b ∧ SqL K H1 b ys ∧ ls[i]? = some ys.length) ∧ ∀ (i : Nat) (v : V), vs[i]? = some v → IsMin ls i → Q v H1
theorem sq_ne (I : Inv X pins σ H s) {a : Ad} {vs : List V} (ha : SqL X.K H a vs) : a ≠ X.env.locals := by
  rcases ha with h | ⟨o, its, n, hk, _⟩
  · intro z
    rcases h with h | ⟨w, h⟩ <;> rw [z, I.free] at h <;> cases h
  · intro z
    have := I.ok.mod.kin a o hk
    obtain ⟨m, F⟩ := I.fr
    have lt := Heap.lt_size this
    have := F.above
    rw [z] at lt
    exact absurd (Nat.lt_of_lt_of_le lt this) (Nat.lt_irrefl _)
theorem run_minLen {a : Ad} {vs : List V} {ls : List Nat} {Q : Value → Shared → Prop} {E : Value → Shared → Prop} {A : Around} (hh : A.handled = none) (I : Inv X pins σ H s) (ha : SqL X.K H a vs) (h0 : 0 < vs.length) (hl : ls.length = vs.length)
    (hk : ∀ (i : Nat) (v : V), vs[i]? = some v → ∃ (b : Ad) (ys : List V), v = V.ref b ∧ SqL X.K H b ys ∧ ls[i]? = some ys.length) (q : ∀ (i : Nat) (v : V) (w' : Value) (s' : Shared), vs[i]? = some v → IsMin ls i → Inv X pins σ H s' → RelV v w' → Q w' s') :
    wpAny (model X.prog X.w) A (call (.builtin "min") [.ref a] [(Str.ofString "key", .builtin "len")]) Q E s := by
  obtain ⟨m, F⟩ := I.fr
  obtain ⟨us, rv, ⟨oa, na, ea, pa⟩, hz⟩ := I.list ha
  have lu : vs.length = us.length := rv.length
  have keep : ∀ {h' : Heap}, Fr X.base X.env.locals h' m → News X.base X.env.locals h' (allNews X.base s.heap X.env.locals) → ∀ b o, b ≠ X.env.locals → s.heap.get? b = some o → h'.get? b = some o := fun {h'} F' N' b o hb e => by
    cases q : X.base.get? b with
    | some u =>
      have := F.keep b u q
      rw [e] at this
      cases this
      exact F'.keep b _ q
    | none => exact (N' (b, o) (mem_allNews hb q e)).1
  refine kmb_min (kid := "len") (vs := us) (news := allNews X.base s.heap X.env.locals) (fun i => (ls.getD i 0 : Nat)) hh F news_all (fun h' F' N' => ⟨oa, keep F' N' a oa (sq_ne I ha) ea, pa.1, na, pa.2.2⟩) (by omega) (fun i v hv h tk own F' N' => ?_) fun i v h' tk' hv hb F' N' => ?_
  · have I' : Inv X pins σ H { s with heap := h, toks := tk } := inv_of_news I F F' N' fun p hp => List.mem_append_left _ hp
    have hlt : i < vs.length := by
      have := (List.getElem?_eq_some_iff.mp hv).1
      omega
    obtain ⟨b, ys, e1, hb, e2⟩ := hk i vs[i] (List.getElem?_eq_getElem hlt)
    obtain ⟨w', hw, rw'⟩ := rv.get (List.getElem?_eq_getElem hlt)
    rw [hv] at hw
    cases hw
    rw [e1] at rw'
    cases (show v = Value.ref b from rw')
    obtain ⟨bs, rb, pl, zb⟩ := I'.list hb
    have lb : ys.length = bs.length := rb.length
    obtain ⟨ob, nb, eb, pb⟩ := pl
    refine PySem.Calls.call_len_list (items := bs.toArray) ⟨ob, eb, pb.1, nb, pb.2.2⟩ (by rw [List.size_toArray, ← lb]; rw [sizeLine_eq] at zb; omega) ?_
    refine ⟨h, tk + 1 + 1, tk + 1, rfl, ?_, F', N'⟩
    rw [List.size_toArray, ← lb, List.getD_eq_getElem?_getD, e2]
    rfl
  · have I' : Inv X pins σ H { s with heap := h', toks := tk' } := inv_of_news I F F' N' fun p hp => hp
    have hlt : i < vs.length := by
      have := (List.getElem?_eq_some_iff.mp hv).1
      omega
    obtain ⟨w', hw, rw'⟩ := rv.get (List.getElem?_eq_getElem hlt)
    rw [hv] at hw
    cases hw
    refine q i _ _ _ (List.getElem?_eq_getElem hlt) (fun j hj => ?_) I' rw'
    obtain ⟨b1, b2⟩ := hb j (by omega)
    exact ⟨by exact_mod_cast b1, fun hji => by have := b2 hji; exact_mod_cast this⟩
theorem pe_minLen {e : Expr} {te : TE} {p p2 pos kp : Pos} (hc : X.calm = true) (hg : Gl X "min") (hm : X.mg "min" = none) (hg2 : Gl X "len") (hm2 : X.mg "len" = none) (he : PE X e te) (hst : starEach [e] X.env = (false, eval e X.env) :: starEach [] X.env) :
    PE X (.Call (.Name "min" p) [e] [⟨some "key", .Name "len" p2, kp⟩] pos) (tMinLen X.K te) := by
  refine ⟨fun pins s σ H Q I h => ?_⟩
  have hv : bootBuiltins "min" = some (.builtin "min") := by decide +kernel
  have hv2 : bootBuiltins "len" = some (.builtin "len") := by decide +kernel
  refine wpAny_Call_Name_kw (ld_blt I hg hm hv ?_ (by decide) (by decide))
  have ha := (pa_cons he pa_nil hst).run pos pins s σ H (fun vs H1 => match vs with
    | [x] => ∃ (a : Ad) (vs : List V) (ls : List Nat), x = V.ref a ∧ SqL X.K H1 a vs ∧ 0 < vs.length ∧ ls.length = vs.length ∧
      (∀ (i : Nat) (v : V), vs[i]? = some v → ∃ (b : Ad) (ys : List V), v = V.ref b ∧ SqL X.K H1 b ys ∧ ls[i]? = some ys.length) ∧ ∀ (i : Nat) (v : V), vs[i]? = some v → IsMin ls i → Q v H1
    | _ => False) I h
  refine PyProof.Rows.callWith_kw (thn ha fun us s1 ⟨vs, H1, I1, r1, q1⟩ => ?_) (by rw [hst]; rfl) (by rw [hst]; rfl) rfl rfl
  cases vs with
  | nil => exact False.elim q1
  | cons x vs =>
    cases vs with
    | cons _ _ => exact False.elim q1
    | nil =>
      obtain ⟨a, ws, ls, e2, q1, q2, q3, q4, q5⟩ := q1
      subst e2
      obtain ⟨u, rfl, ru⟩ := r1.one
      cases ru
      refine wpAny_evalAll_cons (wpAny_bind (ld_blt I1 hg2 hm2 hv2 (wpAny_bind (wpAny_standAt (wpAny_pure (wpAny_evalAll_nil ?_)))) (by decide) (by decide)))
      exact run_minLen (I1.ok.hd hc) (I1.tok _) q1 q2 q3 q4 fun i v w' s' h1 h2 I' rv => ⟨v, H1, I', rv, q5 i v h1 h2⟩
end
end Tw
set_option Elab.async false
set_option linter.all false
set_option autoImplicit false
set_option maxRecDepth 100000
namespace Tw
open PySem PySem.Spec PyProof.Rows L2
section
variable {X : Cx}
theorem dicR_empty (h : Heap) (hb : sysModules < h.objs.size) : DicR (h.push { cls := .type "dict", data := .dict #[] }) h.objs.size [] := by
  refine ⟨Nat.zero_le _, ?_, [], .nil, _, #[], 0, Heap.get?_push_size _ rfl, ⟨rfl, rfl, rfl⟩, rfl, rfl, List.nodup_nil⟩
  exact beq_false_of_ne (Nat.ne_of_gt hb)
theorem roomD (hu : X.A.units + 65 < cLine) : (nestedKind X.prog X.w).room X.A := by
  show X.A.units + 8 < cLine
  omega
theorem n_put {pins : List (Addr × Obj)} {σ : L2.St} {H H' : Hp} {s : Shared} {E : Value → Shared → Prop} {a : Ad} {y v : V} {u r : Value} {Q : Unit → Shared → Prop} (hu : X.A.units + 65 < cLine) (I : Inv X pins σ H s) (g : NPut X.K H a y v H') (ry : RelV y u) (rv : RelV v r)
    (h : ∀ s', Inv X pins σ H' s' → Q () s') : wpAny (model X.prog X.w) X.A (dictSet a u r) Q E s := by
  obtain ⟨xs, k, b, e, hk, rfl, hb, l, rfl⟩ := g
  cases (show u = Value.ref b from ry)
  obtain ⟨z, hd, ys, q, dd⟩ := dic_of I e hk
  have hz : (zsOf ys).length ≤ sizeLine := by unfold zsOf; rw [List.length_map, ← pairs_len q]; exact z
  have hl : (putN xs k b v).length ≤ sizeLine := by have := valN_len (xs := xs) (k := k) (b := b) (v := v); omega
  refine wpAny_dictSet_heap (hsz := hz) (roomD hu) (key_is I hb) dd fun h' dd' hs => h _ ?_
  obtain ⟨zs, q2, e2⟩ := stored_of (k := k) (b := b) q rv
  rw [e2] at dd'
  have he : ∃ q, h'.get? a = some q := let ⟨q, _, _, hq, _⟩ := dd'; ⟨q, hq⟩
  exact d_write I (by rw [e]; exact True.intro) hs he (dicO_new (dicR_of hl hd q2 dd'))
def tNc (K : PySem.W.Frag) (wi : TI) (g : TG) (tt : TT) (tk tv : TE) (vs : List Nat) : TE := fun σ H Q => wi σ H fun J Ha => ∀ N, Ha N = none → ∃ W : Nat → Nat → Hp → Prop, (∃ n, W 0 n (upd Ha N (dicO N []))) ∧ ∀ i n Hb, W i n Hb →
  (J.stop i Hb ∧ Q (.ref N) Hb) ∨ (J.go i Hb ∧ ∃ Nx : Hp → Prop, (∀ Hc, Nx Hc → ∃ n', n' < n ∧ W (i + 1) n' Hc) ∧ ∀ x Hc, J.yld i Hb x Hc → g x (wipe σ vs) Hc fun σ2 Hd => wipe σ2 vs = wipe σ vs ∧ tt σ2 Hd fun b He =>
    if b = true then tk σ2 He fun y Hf => tv σ2 Hf fun z Hg => ∃ Hh, NPut K Hg N y z Hh ∧ Nx Hh else Nx He)
abbrev InBlk (X : Cx) (scope : Scope) (p : Cx → Prop) : Prop := ∀ (s : Shared) (H : Hp) (C : Addr) (cell : List (Str × Addr)) (fp : List Addr), p (X.blk s H scope (compEnvC scope cell C X.env) fp)
theorem nc_run {pins : List (Addr × Obj)} {s0 : Shared} {σ : L2.St} {H0 : Hp} {Q : VK} {kx vx tg iter : Expr} {ifs : List Expr} {scope : Scope} {own : List (Str × Nat)} {pos pos' : Pos} {wi : TI} {g : TG} {tt : TT} {tk tv : TE} {use : Option (Value → Sem Unit)} {Qf : Value → Shared → Prop}
    (hu : X.A.units + 65 < cLine) (calm : X.calm = true) (nd : X.N.Nodup) (I0 : Inv X pins σ H0 s0) (hi : PI X tg iter wi) (ok : BlkOk X.N X.env.scope scope own) (hg : InBlk X scope fun Y => PG Y tg g) (ht : InBlk X scope fun Y => PTs Y ifs tt) (hk : InBlk X scope fun Y => PE Y kx tk) (hv : InBlk X scope fun Y => PE Y vx tv)
    (fold : ∀ x, foldedSetIterable iter X.env x = pure x) (h : tNc X.K wi g tt tk tv (own.map (·.2)) σ H0 Q)
    (after : ∀ N C s' m H', Inv X pins σ H' s' → Q (.ref N) H' → s'.heap.Ns C m → FpOk X pins H' C → compPost (model X.prog X.w) X.A X.xe use Qf (.ref N) C (.ok .next) s') :
    wpAny (model X.prog X.w) X.A (comprehension (.DictComp kx vx [⟨tg, iter, ifs, 0⟩] scope pos) scope X.env pos' newDict false (eval iter X.env) use) Qf X.xe s0 := by
  have hfree : ∀ y ∈ scope.names, y.2 = .free → ∃ c, X.env.cells.lookup y.1 = some c := fun y hy e => (ok.free y hy e).elim (fun z => I0.ok.has _ (.inl z)) fun z => I0.ok.has _ (.inr z)
  refine wpAny_comprehension_free (use := use) rfl fold (closure_ok hfree) ok.kind (fun y hy e => by rw [ok.uniq y hy, e]) (thn (hi.run pins s0 σ H0 _ I0 h) fun seqv sa qa => thn qa fun itv sb qb => ?_)
  obtain ⟨it, fp, inv, J, Ha, rfl, Ia, T, sta, fpa, q⟩ := qb
  refine wpAny_newObj_type (newEnv_comp ?_)
  obtain ⟨N, hN⟩ : ∃ N, sb.heap.objs.size = N := ⟨_, rfl⟩
  rw [hN]
  have free : Ha N = none := Ia.hok.fresh (Nat.le_of_eq hN)
  obtain ⟨W, ⟨n0, w0⟩, turn⟩ := q N free
  obtain ⟨sc, hsc⟩ : ∃ sc : Shared, sc = { sb with heap := sb.heap.push { cls := .type "dict", data := .dict #[] } } := ⟨_, rfl⟩
  rw [← hsc]
  have hpc : sc.heap = sb.heap.push { cls := .type "dict", data := .dict #[] } := by rw [hsc]
  have Ic : Inv X pins σ (upd Ha N (dicO N [])) sc := by
    rw [hsc]
    refine Ia.laid (t' := sb.toks) (fun b o e => Heap.get?_push_of_some _ e) (Nat.le_of_eq hN) (dicO_new ?_)
    have := dicR_empty sb.heap Ia.big
    rwa [hN] at this
  have below : ∀ b ∈ fp, b < sb.heap.objs.size := fun b hb => let ⟨o, e, _⟩ := T.obj _ _ sta b hb; Heap.lt_size e
  have fpc : ∀ b ∈ fp, FpOk X pins (upd Ha N (dicO N [])) b ∧ b < sc.heap.objs.size := fun b hb => by
    have lt := below b hb
    refine ⟨⟨?_, (fpa b hb).2⟩, by rw [hpc, Heap.size_push]; exact Nat.lt_succ_of_lt lt⟩
    rw [upd_ne (by rw [← hN]; exact Nat.ne_of_lt lt)]
    exact (fpa b hb).1
  have stc : inv 0 sc.heap := T.keep _ _ _ sta fun b _ o e => by rw [hpc]; exact Heap.get?_push_of_some _ e
  have Id := block_start Ic ok nd fpc
  obtain ⟨env, henv⟩ : ∃ env, env = compEnvC scope (cellsFrom (sc.heap.objs.size + 1) scope.names (cloFrom X.env.cells scope.names [])) sc.heap.objs.size X.env := ⟨_, rfl⟩
  have Pg := hg sc (upd Ha N (dicO N [])) sc.heap.objs.size (cellsFrom (sc.heap.objs.size + 1) scope.names (cloFrom X.env.cells scope.names [])) fp
  have Pt := ht sc (upd Ha N (dicO N [])) sc.heap.objs.size (cellsFrom (sc.heap.objs.size + 1) scope.names (cloFrom X.env.cells scope.names [])) fp
  have Pk := hk sc (upd Ha N (dicO N [])) sc.heap.objs.size (cellsFrom (sc.heap.objs.size + 1) scope.names (cloFrom X.env.cells scope.names [])) fp
  have Pv := hv sc (upd Ha N (dicO N [])) sc.heap.objs.size (cellsFrom (sc.heap.objs.size + 1) scope.names (cloFrom X.env.cells scope.names [])) fp
  obtain ⟨sd, hsd⟩ : ∃ sd : Shared, sd = { sc with heap := pushCells (sc.heap.push { cls := .type "dict", data := .dict #[] }) scope.names } := ⟨_, rfl⟩
  show codeAny _ _ (.compStart (.DictComp kx vx [⟨tg, iter, ifs, 0⟩] scope pos) 0 (.ref it) (.ref N) (compEnvC scope (cellsFrom (sc.heap.objs.size + 1) scope.names (cloFrom X.env.cells scope.names [])) sc.heap.objs.size X.env)) (compPost (model X.prog X.w) X.A X.xe use Qf (.ref N) sc.heap.objs.size)
    { sc with heap := pushCells (sc.heap.push { cls := .type "dict", data := .dict #[] }) scope.names }
  rw [← henv] at Id Pg Pt Pk Pv ⊢
  rw [← hsd] at Id ⊢
  have locC : env.locals = sc.heap.objs.size := by rw [henv]; rfl
  have none_fp : ∀ b ∈ fp, (upd Ha N (dicO N [])) b = none := fun b hb => (fpc b hb).1.1
  obtain ⟨Hn, hHn⟩ : ∃ Hn, Hn = upd Ha N (dicO N []) := ⟨_, rfl⟩
  rw [← hHn] at Ic Id Pg Pt Pk Pv w0 none_fp fpc
  have stD : inv 0 sd.heap := T.keep _ _ _ stc fun b _ o e => by rw [hsd]; exact pushCells_keeps _ _ _ _ (Heap.get?_push_of_some _ e)
  have still : ∀ {σ' : L2.St} {H' : Hp} {s' : Shared}, Inv (X.blk sc Hn scope env fp) [] σ' H' s' → (∀ b ∈ fp, H' b = none) → ∀ b ∈ fp, FpOk (X.blk sc Hn scope env fp) [] H' b := fun {σ' H' s'} I' no b hb =>
    ⟨no b hb, (I'.ok.exf b hb).1, I'.ok.exfs b hb, .inl hb, fun x c e => (I'.ok.exf b hb).2 x c e, fun p hp => absurd (show p ∈ ([] : List (Addr × Obj)) ++ [] from hp) (by simp)⟩
  let Turn : Nat → Shared → Prop := fun n s' => ∃ i H', Inv (X.blk sc Hn scope env fp) [] (wipe σ (own.map (·.2))) H' s' ∧ inv i s'.heap ∧ (∀ b ∈ fp, H' b = none) ∧ W i n H'
  have loop : codeAny (model X.prog X.w) X.A (.compLoop (.DictComp kx vx [⟨tg, iter, ifs, 0⟩] scope pos) 0 (.ref it) (.ref N) env) (compPost (model X.prog X.w) X.A X.xe use Qf (.ref N) sc.heap.objs.size) sd := by
    refine compLoop_anyD Turn ?_ n0 ⟨0, Hn, Id, stD, none_fp, w0⟩
    rintro n s1 ⟨i, H1, I1, st1, no1, w1⟩
    rcases turn i n H1 w1 with ⟨stop, fine⟩ | ⟨go, Nx, hNx, step⟩
    · refine thnF (T.done (X.blk sc Hn scope env fp) rfl rfl rfl calm i [] s1 _ H1 (fun _ _ => False) I1 (still I1 no1) st1 stop) fun r s2 qd => ?_
      obtain ⟨rfl, I2⟩ := qd
      have back : Inv X pins σ H1 s2 := Ic.call' (ch := fp) I2.os I2.base I2.hok I2.bare fun b hb => ⟨(fpc b hb).1.2.2.2.1, (fpc b hb).1.2.1, (fpc b hb).1.2.2.2.2.1, (fpc b hb).1.2.2.2.2.2⟩
      have noC : H1 sc.heap.objs.size = none := by
        have := (show H1 env.locals = none from I2.free)
        rwa [locC] at this
      obtain ⟨mm, ns, _⟩ := I2.loc
      have ns : s2.heap.Ns env.locals mm := ns
      rw [locC] at ns
      exact after N sc.heap.objs.size s2 mm H1 back fine ns (Ic.fpOk (Nat.le_refl _) noC)
    · refine thnF (T.item (X.blk sc Hn scope env fp) rfl rfl rfl calm i [] s1 _ H1 (fun _ _ => False) I1 (still I1 no1) st1 go) fun r s2 qi => ?_
      obtain ⟨u, rfl, h2⟩ := qi
      refine thnF h2 fun _ s3 q3 => ?_
      obtain ⟨x, H3, I3, r3, y3, st3, no3⟩ := q3
      have I3p := I3.pinned (still I3 no3) (T.obj _ _ st3)
      refine thnF (Pg.run _ s3 _ H3 x u _ I3p r3 (step x H3 y3)) fun _ s4 q4 => ?_
      obtain ⟨σ4, H4, I4, hw4, t4⟩ := q4
      refine thnF (Pt.run _ s4 σ4 H4 _ I4 t4) fun b s5 q5 => ?_
      obtain ⟨H5, I5, t5⟩ := q5
      have over : ∀ {s' : Shared} {H' : Hp}, Inv (X.blk sc Hn scope env fp) ([] ++ pinsAt fp s3.heap) σ4 H' s' → Nx H' → ∃ m, m < n ∧ Turn m s' := fun {s' H'} I' nx => by
        obtain ⟨m', lt, w'⟩ := hNx H' nx
        have pin : ∀ b ∈ fp, ∀ o, s3.heap.get? b = some o → s'.heap.get? b = some o ∧ H' b = none := fun b hb o e =>
          let z := I'.pin (b, o) (List.mem_append_right _ (List.mem_append_right _ (mem_pinsAt hb e)))
          ⟨z.1, z.2.1⟩
        have len : (wipe σ (own.map (·.2))).length = σ4.length := by rw [← hw4, wipe_length]
        refine ⟨m', lt, i + 1, H', (I'.unpinned (pins := [])).weak len (fun j v e => ?_), T.keep _ _ _ st3 fun b hb o e => (pin b hb o e).1, fun b hb => ?_, w'⟩
        · rw [← hw4] at e
          exact (wipe_some e).1
        · obtain ⟨o, e, _⟩ := T.obj _ _ st3 b hb
          exact (pin b hb o e).2
      cases b with
      | false =>
        have t5 : Nx H5 := by simpa using t5
        have := over I5 t5
        simpa using this
      | true =>
        rw [if_pos rfl]
        have t5 : tk σ4 H5 fun y Hf => tv σ4 Hf fun z Hg => ∃ Hh, NPut X.K Hg N y z Hh ∧ Nx Hh := by simpa using t5
        refine thnF (Pk.run _ s5 σ4 H5 _ I5 t5) fun kw s6 q6 => ?_
        obtain ⟨yk, H6, I6, r6, t6⟩ := q6
        refine thnF (Pv.run _ s6 σ4 H6 _ I6 t6) fun vw s7 q7 => ?_
        obtain ⟨yv, H7, I7, r7, Hh, g7, nx⟩ := q7
        exact n_put (X := X.blk sc Hn scope env fp) (show X.A.units + 65 < cLine from hu) I7 g7 r6 r7 fun s8 I8 => over I8 nx
  exact codeAny_compStart_dict loop (T.self X.A 0 _ _ _ stD loop)
theorem pe_nc {kx vx tg iter : Expr} {ifs : List Expr} {scope : Scope} {own : List (Str × Nat)} {pos : Pos} {wi : TI} {g : TG} {tt : TT} {tk tv : TE} (hu : X.A.units + 65 < cLine) (calm : X.calm = true) (nd : X.N.Nodup) (hi : PI X tg iter wi) (ok : BlkOk X.N X.env.scope scope own)
    (hg : InBlk X scope fun Y => PG Y tg g) (ht : InBlk X scope fun Y => PTs Y ifs tt) (hk : InBlk X scope fun Y => PE Y kx tk) (hv : InBlk X scope fun Y => PE Y vx tv) (fold : ∀ x, foldedSetIterable iter X.env x = pure x) :
    PE X (.DictComp kx vx [⟨tg, iter, ifs, 0⟩] scope pos) (tNc X.K wi g tt tk tv (own.map (·.2))) := by
  refine ⟨fun pins s σ H Q I h => ?_⟩
  rw [arm_eval_DictComp]
  refine nc_run hu calm nd I hi ok hg ht hk hv fold h fun N C s' m H' I' q ns fpo => ⟨m, ns, fun h'' same => ?_⟩
  obtain ⟨f0, f1, f2, f3, f4, f5⟩ := fpo
  exact ⟨.ref N, H', I'.turned (t' := s'.toks) (fun b o hb e => (same.2 b hb).trans e) f0 f1 f3 f4 f5, rfl, q⟩
theorem ps_setNc {i : Nat} {y : Str} {py : Pos} {kx vx tg iter : Expr} {ifs : List Expr} {scope : Scope} {own : List (Str × Nat)} {pos spos : Pos} {wi : TI} {g : TG} {tt : TT} {tk tv : TE} (hu : X.A.units + 65 < cLine) (hc : X.calm = true) (hN : X.N.Nodup) (hy : X.N[i]? = some y) (hyl : X.env.scope.names.lookup y = some .local)
    (hsw : swapsWith (.DictComp kx vx [⟨tg, iter, ifs, 0⟩] scope pos) (some (.Name y py)) spos.line X.env = pure true) (hi : PI X tg iter wi) (ok : BlkOk X.N X.env.scope scope own)
    (hg : InBlk X scope fun Y => PG Y tg g) (ht : InBlk X scope fun Y => PTs Y ifs tt) (hk : InBlk X scope fun Y => PE Y kx tk) (hv : InBlk X scope fun Y => PE Y vx tv) (fold : ∀ x, foldedSetIterable iter X.env x = pure x) :
    PS X (.Assign [.Name y py] (.DictComp kx vx [⟨tg, iter, ifs, 0⟩] scope pos) spos) (tAsg (tNc X.K wi g tt tk tv (own.map (·.2))) (gName i)) := by
  refine ⟨fun pins s σ H D I h => ?_⟩
  rw [exec_Assign_Name_used _ _ _ _ hsw]
  refine wpAny_bind (wpAny_standAt (wpAny_bind ?_))
  show wpAny _ X.A (do let _ ← comprehension (.DictComp kx vx [⟨tg, iter, ifs, 0⟩] scope pos) scope X.env (firstIterPos [⟨tg, iter, ifs, 0⟩] pos) newDict false (eval iter X.env) (some (assign (.Name y py) X.env))) _ _ s
  have h : tNc X.K wi g tt tk tv (own.map (·.2)) σ H (fun x H1 => gName i x σ H1 D.nx) := h
  refine wpAny_bind (thn (nc_run (Qf := fun _ s' => SP X pins D .next s') hu hc hN I hi ok hg ht hk hv fold h fun L C s' m H' I' q hn f => ?_) fun _ s' hq => wpAny_pure (wpAny_pure hq))
  show wpAny _ _ (assign (.Name y py) X.env (.ref L)) _ _ _
  refine wpAny_assign_Name (store_ok2 (v := V.ref L) I' hN hy (.inl hyl) rfl (fun s2 I2 ⟨a, sb, ha⟩ => ?_) (.inr hyl))
  obtain ⟨f0, f1, f2, f3, f4, f5⟩ := f
  have haC : C ≠ a := by
    rcases ha with z | z
    · rw [z]; exact f1
    · exact fun e => f4 y a z e.symm
  refine ⟨m, hn.sameBut sb haC, fun h3 sb3 => ?_⟩
  exact ⟨_, H', I2.turned (t' := s2.toks) (fun b o hb e => (sb3.2 b hb).trans e) f0 f1 f3 f4 f5, q⟩
end
end Tw
set_option Elab.async false
set_option linter.all false
set_option autoImplicit false
set_option maxRecDepth 100000
namespace Tw
open PySem PySem.Spec PyProof.Rows L2
def XGet (K : PySem.W.Frag) (H : Hp) (a : Ad) (y : V) (r : Option V) : Prop := DGet H a y r ∨ NGet K H a y r
def XPut (K : PySem.W.Frag) (H : Hp) (a : Ad) (y v : V) (H' : Hp) : Prop := DPut H a y v H' ∨ NPut K H a y v H'
def ROv (K : PySem.W.Frag) (m : Mp) (H : Hp) : Option VV → Option V → Prop
  | some x, some v => R K m H x v
  | none, none => True
  | _, _ => False
theorem ROv.isSome {K : PySem.W.Frag} {m : Mp} {H : Hp} {x : Option VV} {v : Option V} (h : ROv K m H x v) : x.isSome = v.isSome := by
  cases x <;> cases v <;> first | rfl | exact h.elim
section
variable {K : PySem.W.Frag} {m : Mp} {H : Hp} {S S' : Hs} {x y z : VV} {v w : V} {Q : VK}
theorem kF_rd : ∀ {ks : List VV} {kf : KF} {vs : List V}, mapO kF1 ks = some kf → Rs K m H ks vs → vs = kf.map k1V
  | [], _, _, e, .nil => by cases e; rfl
  | k :: ks, _, _, e, .cons r t => by
    unfold mapO at e
    split at e
    · rename_i a as e1 e2
      cases e
      rw [List.map_cons, kF_rd e2 t]
      cases r <;> simp [kF1] at e1
      · subst e1; rfl
      · subst e1; rfl
    · cases e
theorem dct_rd (h : SimH K m H S) (rx : R K m H x v) {t : Bool} {kvs : List (VV × VV)} (e : dctOf S x = some (t, kvs)) : ∃ a o xs, v = .ref a ∧ H a = some o ∧ dcO a t xs o ∧ Rp K m H kvs xs := by
  cases rx <;> simp [dctOf] at e
  · rename_i k a hk
    split at e
    · rename_i t' kvs' es
      cases e
      obtain ⟨xs, o, h1, h2, h3⟩ := h.obj k _ a es hk
      exact ⟨a, o, xs, rfl, h1, h2, h3⟩
    · cases e
  · obtain ⟨rfl, rfl⟩ := e
    exact ⟨_, _, _, rfl, by assumption, by assumption, by assumption⟩
theorem look_i' {n : Int} : ∀ {kvs : List (VV × VV)} {xs : List (DK × V)}, Rp K m H kvs xs → ∀ ps : List (Int × V), xs = ps.map (fun p => (DK.i p.1, p.2)) → ROv K m H (lookD kvs (.i n)) (valV (ps.map fun p => ((Sum.inl p.1 : L2.Key), p.2)) (Sum.inl n))
  | _, _, .nil, [], _ => trivial
  | _, _, .nil, _ :: _, h => by simp at h
  | _, _, .int _ _, [], h => by simp at h
  | _, _, .tup _ _ _ _, [], h => by simp at h
  | _, _, .tup _ _ _ _, _ :: _, h => by simp at h
  | _, _, .int r t, p :: ps, h => by
    rw [List.map_cons] at h
    injection h with h1 h2
    injection h1 with h1 h3
    injection h1 with h1
    have ih := look_i' (n := n) t ps h2
    unfold lookD at ih ⊢
    rw [List.find?_cons, List.map_cons]
    by_cases e : p.1 = n
    · rw [valV_pos (by rw [e])]
      rename_i i x v kvs xs
      have : keyD (VV.int i) = some (.i n) := by rw [h1, e]; rfl
      simp only [this, decide_true]
      rw [← h3]
      exact r
    · rw [valV_neg (fun z => e (by injection z))]
      rename_i i x v kvs xs
      have : ¬ keyD (VV.int i) = some (.i n) := fun z => e (by rw [h1] at z; injection z with z; injection z)
      simp only [this, decide_false]
      exact ih
theorem look_i {n : Int} {kvs : List (VV × VV)} {ps : List (Int × V)} (h : Rp K m H kvs (ps.map fun p => (DK.i p.1, p.2))) : ROv K m H (lookD kvs (.i n)) (valV (ps.map fun p => ((Sum.inl p.1 : L2.Key), p.2)) (Sum.inl n)) := look_i' h ps rfl
theorem keyD_tup {ks : List VV} {kf : KF} (h : mapO kF1 ks = some kf) : keyD (.tup ks) = some (.t kf) := by
  show (mapO kF1 ks).map DKey.t = _
  rw [h]
  rfl
theorem look_t' {k : KF} : ∀ {kvs : List (VV × VV)} {xs : List (DK × V)}, Rp K m H kvs xs → ∀ ps : Prs, xs = ps.map (fun p => (DK.t p.1 p.2.1, p.2.2)) → ROv K m H (lookD kvs (.t k)) (valN ps k) ∧ ∀ x ∈ ps, KeyAt K H x.1 x.2.1
  | _, _, .nil, [], _ => ⟨trivial, fun x hx => nomatch hx⟩
  | _, _, .nil, _ :: _, h => by simp at h
  | _, _, .int _ _, [], h => by simp at h
  | _, _, .tup _ _ _ _, [], h => by simp at h
  | _, _, .int _ _, _ :: _, h => by simp at h
  | _, _, .tup hk f r t, p :: ps, h => by
    rw [List.map_cons] at h
    injection h with h1 h2
    injection h1 with h1 h3
    injection h1 with h1 h4
    obtain ⟨ih, ih2⟩ := look_t' (k := k) t ps h2
    refine ⟨?_, fun x hx => ?_⟩
    · unfold lookD valN at ih ⊢
      rw [List.find?_cons, List.find?_cons]
      rename_i ks kf b x v kvs xs
      have kd := keyD_tup hk
      by_cases e : p.1 = k
      · have : keyD (VV.tup ks) = some (.t k) := by rw [kd, h1, e]
        simp only [this, e, decide_true]
        show R K m H _ p.2.2
        rw [← h3]
        exact r
      · have : ¬ keyD (VV.tup ks) = some (.t k) := fun z => e (by rw [kd, h1] at z; injection z with z; injection z)
        simp only [this, e, decide_false]
        exact ih
    · rcases List.mem_cons.mp hx with e | hx
      · subst e
        rw [← h1, ← h4]
        exact f.sq
      · exact ih2 x hx
theorem look_t {k : KF} {kvs : List (VV × VV)} {ps : Prs} (h : Rp K m H kvs (ps.map fun p => (DK.t p.1 p.2.1, p.2.2))) : ROv K m H (lookD kvs (.t k)) (valN ps k) := (look_t' h ps rfl).1
theorem Rp.keys {kvs : List (VV × VV)} {ps : Prs} (h : Rp K m H kvs (ps.map fun p => (DK.t p.1 p.2.1, p.2.2))) : ∀ x ∈ ps, KeyAt K H x.1 x.2.1 := (look_t' (k := []) h ps rfl).2
theorem Rp.length : ∀ {kvs : List (VV × VV)} {xs : List (DK × V)}, Rp K m H kvs xs → kvs.length = xs.length
  | _, _, .nil => rfl
  | _, _, .int _ t => by rw [List.length_cons, List.length_cons, Rp.length t]
  | _, _, .tup _ _ _ t => by rw [List.length_cons, List.length_cons, Rp.length t]
theorem key_rd (ry : R K m H y w) {k : DKey} (e : keyD y = some k) : (∃ n, k = .i n ∧ y = .int n ∧ w = .int n) ∨ ∃ kf ks b, k = .t kf ∧ y = .tup ks ∧ mapO kF1 ks = some kf ∧ w = .ref b ∧ FzT K m H b (kf.map k1V) := by
  cases ry <;> simp [keyD] at e
  · exact .inl ⟨_, e.symm, rfl, rfl⟩
  · rename_i a xs ys f t
    obtain ⟨kf, e1, e2⟩ := e
    have f : FzT K m H a ys := by assumption
    have t : Rs K m H xs ys := by assumption
    refine .inr ⟨kf, xs, a, e2.symm, rfl, e1, rfl, ?_⟩
    rw [← kF_rd e1 t]
    exact f
theorem get_rd (h : SimH K m H S) (rx : R K m H x v) (ry : R K m H y w) {o : Option VV} (e : getDV S x y = some o) : ∃ a r, v = .ref a ∧ XGet K H a w r ∧ ROv K m H o r := by
  unfold getDV at e
  split at e
  · rename_i t kvs k e1 e2
    split at e
    · rename_i ht
      cases e
      obtain ⟨a, ob, xs, rfl, h1, h2, h3⟩ := dct_rd h rx e1
      rcases h2 with ⟨rfl, ps, rfl, rfl⟩ | ⟨rfl, ps, rfl, rfl⟩
      · rcases key_rd ry e2 with ⟨n, rfl, rfl, rfl⟩ | ⟨kf, ks, b, rfl, _⟩
        · exact ⟨a, _, rfl, .inl (.inl ⟨_, Sum.inl n, .inl h1, rfl, rfl⟩), look_i h3⟩
        · cases ht
      · rcases key_rd ry e2 with ⟨n, rfl, _⟩ | ⟨kf, ks, b, rfl, rfl, hk, rfl, hf⟩
        · cases ht
        · exact ⟨a, _, rfl, .inr ⟨ps, kf, b, h1, h3.keys, rfl, hf.sq, rfl⟩, look_t h3⟩
    · cases e
  · cases e
end
section
variable {K : PySem.W.Frag} {m : Mp} {H : Hp} {z : VV} {v : V}
theorem Rp.snoc {k : VV} {d : DK} : ∀ {kvs : List (VV × VV)} {xs : List (DK × V)}, Rp K m H kvs xs → Rp K m H [(k, z)] [(d, v)] → Rp K m H (kvs ++ [(k, z)]) (xs ++ [(d, v)])
  | _, _, .nil, q => q
  | _, _, .int r t, q => .int r (Rp.snoc t q)
  | _, _, .tup a b r t, q => .tup a b r (Rp.snoc t q)
theorem swap_i {n : Int} (rz : R K m H z v) : ∀ {kvs : List (VV × VV)} {xs : List (DK × V)}, Rp K m H kvs xs → ∀ ps : List (Int × V), xs = ps.map (fun p => (DK.i p.1, p.2)) →
    Rp K m H (kvs.map fun p => if keyD p.1 = some (.i n) then (p.1, z) else p) ((ps.map fun p => if p.1 = n then (p.1, v) else p).map fun p => (DK.i p.1, p.2))
  | _, _, .nil, [], _ => .nil
  | _, _, .nil, _ :: _, h => by simp at h
  | _, _, .int _ _, [], h => by simp at h
  | _, _, .tup _ _ _ _, [], h => by simp at h
  | _, _, .tup _ _ _ _, _ :: _, h => by simp at h
  | _, _, .int r t, p :: ps, h => by
    rw [List.map_cons] at h
    injection h with h1 h2
    injection h1 with h1 h3
    injection h1 with h1
    have ih := swap_i (n := n) rz t ps h2
    rw [List.map_cons, List.map_cons, List.map_cons]
    rename_i i x u kvs xs
    by_cases e : p.1 = n
    · rw [if_pos (show keyD (VV.int i) = some (.i n) by rw [h1, e]; rfl), if_pos e, h1]
      exact .int rz ih
    · rw [if_neg (show ¬ keyD (VV.int i) = some (.i n) from fun z => e (by rw [h1] at z; injection z with z; injection z)), if_neg e, h1]
      rw [h3] at r
      exact .int r ih
theorem swap_t {k : KF} (rz : R K m H z v) : ∀ {kvs : List (VV × VV)} {xs : List (DK × V)}, Rp K m H kvs xs → ∀ ps : Prs, xs = ps.map (fun p => (DK.t p.1 p.2.1, p.2.2)) →
    Rp K m H (kvs.map fun p => if keyD p.1 = some (.t k) then (p.1, z) else p) ((ps.map fun p => if p.1 = k then (p.1, p.2.1, v) else p).map fun p => (DK.t p.1 p.2.1, p.2.2))
  | _, _, .nil, [], _ => .nil
  | _, _, .nil, _ :: _, h => by simp at h
  | _, _, .int _ _, [], h => by simp at h
  | _, _, .tup _ _ _ _, [], h => by simp at h
  | _, _, .int _ _, _ :: _, h => by simp at h
  | _, _, .tup hk f r t, p :: ps, h => by
    rw [List.map_cons] at h
    injection h with h1 h2
    injection h1 with h1 h3
    injection h1 with h1 h4
    have ih := swap_t (k := k) rz t ps h2
    rw [List.map_cons, List.map_cons, List.map_cons]
    rename_i ks kf b x u kvs xs
    have kd := keyD_tup hk
    by_cases e : p.1 = k
    · rw [if_pos (show keyD (VV.tup ks) = some (.t k) by rw [kd, h1, e]), if_pos e]
      show Rp K m H _ ((DK.t p.1 p.2.1, v) :: _)
      rw [← h1, ← h4]
      exact .tup hk f rz ih
    · rw [if_neg (show ¬ keyD (VV.tup ks) = some (.t k) from fun z => e (by rw [kd, h1] at z; injection z with z; injection z)), if_neg e]
      show Rp K m H _ ((DK.t p.1 p.2.1, p.2.2) :: _)
      rw [← h1, ← h4, ← h3]
      exact .tup hk f r ih
theorem putK_i {n : Int} {kvs : List (VV × VV)} {ps : List (Int × V)} (h : Rp K m H kvs (ps.map fun p => (DK.i p.1, p.2))) (rz : R K m H z v) :
    ∃ ps' : List (Int × V), putK (ps.map fun p => ((Sum.inl p.1 : L2.Key), p.2)) (Sum.inl n) v = ps'.map (fun p => ((Sum.inl p.1 : L2.Key), p.2)) ∧ Rp K m H (putD kvs (.int n) (.i n) z) (ps'.map fun p => (DK.i p.1, p.2)) := by
  have hs := (look_i (n := n) h).isSome
  unfold putK putD
  rw [valV_any, hs]
  cases (valV (ps.map fun p => ((Sum.inl p.1 : L2.Key), p.2)) (Sum.inl n)).isSome with
  | true =>
    rw [if_pos rfl, if_pos rfl]
    refine ⟨ps.map fun p => if p.1 = n then (p.1, v) else p, ?_, swap_i rz h ps rfl⟩
    rw [List.map_map, List.map_map]
    apply List.map_congr_left
    intro p _
    show (if (Sum.inl p.1 : L2.Key) = Sum.inl n then ((Sum.inl p.1 : L2.Key), v) else (Sum.inl p.1, p.2)) = ((Sum.inl (if p.1 = n then (p.1, v) else p).1 : L2.Key), (if p.1 = n then (p.1, v) else p).2)
    by_cases e : p.1 = n
    · rw [if_pos e, if_pos (by rw [e])]
    · rw [if_neg e, if_neg (fun z => e (by injection z))]
  | false =>
    rw [if_neg (by decide), if_neg (by decide)]
    refine ⟨ps ++ [(n, v)], by simp, ?_⟩
    rw [List.map_append]
    exact h.snoc (.int rz .nil)
theorem putN_t {k : KF} {ks : List VV} {b : Ad} {kvs : List (VV × VV)} {ps : Prs} (h : Rp K m H kvs (ps.map fun p => (DK.t p.1 p.2.1, p.2.2))) (hk : mapO kF1 ks = some k) (f : FzT K m H b (k.map k1V)) (rz : R K m H z v) :
    Rp K m H (putD kvs (.tup ks) (.t k) z) ((putN ps k b v).map fun p => (DK.t p.1 p.2.1, p.2.2)) := by
  have hs := (look_t (k := k) h).isSome
  unfold putN putD
  rw [hs]
  cases (valN ps k).isSome with
  | true =>
    rw [if_pos rfl, if_pos rfl]
    exact swap_t rz h ps rfl
  | false =>
    rw [if_neg (by decide), if_neg (by decide), List.map_append]
    exact h.snoc (.tup hk f rz .nil)
theorem put_rd {a : Ad} {t : Bool} {kvs : List (VV × VV)} {xs : List (DK × V)} {o : HO} {y : VV} {w : V} {k : DKey} (ho : H a = some o) (hd : dcO a t xs o) (hp : Rp K m H kvs xs) (ry : R K m H y w) (hk : keyD y = some k) (ht : k.tu = t) (hl : kvs.length < szL) (rz : R K m H z v) :
    ∃ o' xs', (t = true → NPut K H a w v (upd H a o')) ∧ (t = false → ∃ us j, H a = some (.dK us) ∧ w = kV j ∧ us.length < sizeLine ∧ o' = .dK (putK us j v)) ∧ dcO a t xs' o' ∧ Rp K m H (putD kvs y k z) xs' := by
  have e63 : szL = sizeLine := by rw [sizeLine_eq]; rfl
  rcases hd with ⟨rfl, ps, rfl, rfl⟩ | ⟨rfl, ps, rfl, rfl⟩
  · rcases key_rd ry hk with ⟨n, rfl, rfl, rfl⟩ | ⟨kf, ks, b, rfl, _⟩
    · obtain ⟨ps', e1, e2⟩ := putK_i (n := n) hp rz
      refine ⟨_, _, fun z => (nomatch z), fun _ => ⟨_, Sum.inl n, ho, rfl, ?_, rfl⟩, .inl ⟨rfl, ps', rfl, by rw [e1]⟩, e2⟩
      have := hp.length
      rw [List.length_map] at this ⊢
      omega
    · cases ht
  · rcases key_rd ry hk with ⟨n, rfl, _⟩ | ⟨kf, ks, b, rfl, rfl, hk, rfl, hf⟩
    · cases ht
    · refine ⟨_, _, fun _ => ⟨ps, kf, b, ho, hp.keys, rfl, hf.sq, ?_, rfl⟩, fun z => (nomatch z), .inr ⟨rfl, _, rfl, rfl⟩, putN_t hp hk hf rz⟩
      have := hp.length
      rw [List.length_map] at this
      omega
theorem xput_of {a : Ad} {t : Bool} {w : V} {o' : HO} (h1 : t = true → NPut K H a w v (upd H a o')) (h2 : t = false → ∃ us j, H a = some (.dK us) ∧ w = kV j ∧ us.length < sizeLine ∧ o' = .dK (putK us j v)) : XPut K H a w v (upd H a o') := by
  cases t with
  | true => exact .inr (h1 rfl)
  | false =>
    obtain ⟨us, j, e1, e2, e3, e4⟩ := h2 rfl
    exact .inl (.inl ⟨us, j, e1, e2, e3, by rw [e4]⟩)
end
section
variable {X : Cx}
def rItX (K : PySem.W.Frag) : R2 := fun x y H Q => ∃ a v, x = .ref a ∧ XGet K H a y (some v) ∧ Q v H
theorem ix_X (hu : X.A.units + 65 < cLine) : IxR X (rItX X.K) := by
  intro value slice pins s σ H x y v u Q I rx ry h hs
  obtain ⟨a, z, rfl, g, q⟩ := h
  rcases g with g | g
  · cases (show v = Value.ref a from rx)
    exact tail_any (dict_typeIs I g) PySem.F.slot_dict_getitem.lookup (d_getItem (by omega) I g ry fun w' s' I' rw' => ⟨z, H, I', rw', q⟩) hs
  · exact ix_N hu value slice pins s σ H _ y v u Q I rx ry ⟨a, z, rfl, g, q⟩ hs
def rInX (K : PySem.W.Frag) (neg : Bool) : R2 := fun x y H Q => ∃ a o, y = .ref a ∧ XGet K H a x o ∧ Q (.bl (neg != o.isSome)) H
theorem op_inX (hu : X.A.units + 65 < cLine) : OpR X (compareOp .In) (rInX X.K false) := by
  intro pins s σ H x y v u Q I rx ry h
  obtain ⟨a, o, rfl, g, q⟩ := h
  rcases g with g | g
  · cases (show u = Value.ref a from ry)
    refine d_in (by omega) I g rx fun s' I' => ⟨.bl o.isSome, H, I', rfl, ?_⟩
    rw [show (false != o.isSome) = o.isSome by cases o.isSome <;> rfl] at q
    exact q
  · exact op_inN hu pins s σ H x _ v u Q I rx ry ⟨a, o, rfl, g, q⟩
theorem op_notInX (hu : X.A.units + 65 < cLine) : OpR X (compareOp .NotIn) (rInX X.K true) := by
  intro pins s σ H x y v u Q I rx ry h
  obtain ⟨a, o, rfl, g, q⟩ := h
  rcases g with g | g
  · cases (show u = Value.ref a from ry)
    refine d_notIn (by omega) I g rx fun s' I' => ⟨.bl (!o.isSome), H, I', rfl, ?_⟩
    rw [show (true != o.isSome) = !o.isSome by cases o.isSome <;> rfl] at q
    exact q
  · exact op_notInN hu pins s σ H x _ v u Q I rx ry ⟨a, o, rfl, g, q⟩
def rSetX (K : PySem.W.Frag) : V → V → V → Hp → (Hp → Prop) → Prop := fun o i v H Q => ∃ a H', o = .ref a ∧ XPut K H a i v H' ∧ Q H'
theorem set_X (hu : X.A.units + 65 < cLine) : PSet X (rSetX X.K) := by
  intro pins s σ H o i v ov iv u Q I ro ri rv h
  obtain ⟨a, H', rfl, g, q⟩ := h
  cases (show ov = Value.ref a from ro)
  rcases g with g | g
  · exact d_setItem (by omega) I g ri rv fun s' I' => ⟨H', I', q⟩
  · exact n_setItem hu I g ri rv fun s' I' => ⟨H', I', q⟩
def IsX (K : PySem.W.Frag) (H : Hp) (a : Ad) : Prop := IsD H a ∨ ∃ xs : Prs, H a = some (dicO a xs) ∧ ∀ x ∈ xs, KeyAt K H x.1 x.2.1
theorem isX_at {pins : List (Addr × Obj)} {σ : L2.St} {H : Hp} {s : Shared} {a : Ad} (I : Inv X pins σ H s) (d : IsX X.K H a) : s.TypeIs (.ref a) "dict" ∧ (∀ b, Value.ref a = .ref b → ∃ ob, s.heap.get? b = some ob ∧ ob.dict = none) := by
  rcases d with d | ⟨xs, e, hk⟩
  · obtain ⟨h1, h2, _⟩ := isD_at I d
    exact ⟨h1, h2⟩
  · obtain ⟨_, _, ys, _, dd⟩ := dic_of I e hk
    refine ⟨dd.typeIs, fun b q => ?_⟩
    cases q
    obtain ⟨ob, _, _, h1, h2, _⟩ := dd
    exact ⟨ob, h1, h2.2.1⟩
def tGetX (K : PySem.W.Frag) (td ty tx : TE) : TE := fun σ H Q => td σ H fun x H1 => ∃ a, x = .ref a ∧ IsX K H1 a ∧ ty σ H1 fun y H2 => tx σ H2 fun z H3 => ∃ o, XGet K H3 a y o ∧ Q (o.getD z) H3
theorem pe_getX {o e f : Expr} {apos cpos : Pos} {td ty tx : TE} (hu : X.A.units + 65 < cLine) (ho : PE X o td) (he : PE X e ty) (hf : PE X f tx) (m : M2 X o "get" apos e f cpos) : PE X (.Call (.Attribute o "get" apos) [e, f] [] cpos) (tGetX X.K td ty tx) := by
  refine ⟨fun pins s0 σ H Q I h => ?_⟩
  refine wpAny_Call_method m.base m.few m.line PySem.F.plainAttrs_dict PySem.F.slot_dict_get PySem.F.type_dict_get (thn (ho.run pins s0 σ H _ I h) fun dv sa qa => ?_)
  obtain ⟨x, Ha, Ia, rx, a, rfl, d, qa⟩ := qa
  cases (show dv = Value.ref a from rx)
  obtain ⟨t1, t2⟩ := isX_at Ia d
  refine ⟨t1, t2, ?_⟩
  rw [m.trees]
  refine Calls.callWith_builtin rfl (Calls.evalArgs_plain (Calls.spliced_cons (thn (he.run pins sa σ Ha _ Ia qa) fun kv sb qb => ?_)))
  obtain ⟨y, Hb, Ib, ry, qb⟩ := qb
  refine Calls.spliced_cons (thn (hf.run pins sb σ Hb _ Ib qb) fun ev sc qc => Calls.spliced_nil ?_)
  obtain ⟨z, Hc, Ic, rz, ov, g, qc⟩ := qc
  rcases g with g | g
  · exact d_get2 (by omega) Ic g ry rz fun w' sd Id rw' => ⟨_, Hc, Id, rw', qc⟩
  · exact n_get2 hu Ic g ry rz fun w' sd Id rw' => ⟨_, Hc, Id, rw', qc⟩
end
end Tw
set_option Elab.async false
set_option linter.all false
set_option autoImplicit false
set_option maxRecDepth 100000
namespace Tw
open PySem PySem.Spec PyProof.Rows L2
def PairL (K : PySem.W.Frag) (H : Hp) : List V → Prs → Prop
  | [], [] => True
  | w :: ws, p :: ps => (∃ t, w = .ref t ∧ SqT K H t [.ref p.2.1, p.2.2]) ∧ KeyAt K H p.1 p.2.1 ∧ PairL K H ws ps
  | _, _ => False
def putsN (acc ps : Prs) : Prs := ps.foldl (fun acc p => putN acc p.1 p.2.1 p.2.2) acc
def rDictP (K : PySem.W.Frag) : List V → Hp → VK → Prop := fun vs H Q => ∃ (a : Ad) (ws : List V) (ps : Prs), vs = [.ref a] ∧ SqL K H a ws ∧ PairL K H ws ps ∧ ∀ p, H p = none → Q (.ref p) (upd H p (dicO p (putsN [] ps)))
section
variable {X : Cx} {pins : List (Addr × Obj)} {σ : L2.St} {H : Hp} {s : Shared}
theorem pairs_lie (I : Inv X pins σ H s) : ∀ {ws : List V} {ps : Prs} {us : List Value}, PairL X.K H ws ps → Vals ws us →
    ∃ (ts : List Ad) (ys : List (KF × Ad × Value)), us = ts.map .ref ∧ ts.length = ps.length ∧ Paired PR ps ys ∧ (∀ p ∈ ps, KeyAt X.K H p.1 p.2.1) ∧
      ∀ (j : Nat) (y : KF × Ad × Value), ys[j]? = some y → ∃ t, ts[j]? = some t ∧ PairAt s.heap t (.ref y.2.1) y.2.2
  | [], [], _, _, .nil => ⟨[], [], rfl, rfl, .nil, fun _ h => (nomatch h), fun j y h => by simp at h⟩
  | w :: ws, p :: ps, _, ⟨⟨t, e, q⟩, hk, r⟩, .cons rv rs => by
    subst e
    obtain ⟨ts, ys, e1, e2, e3, e4, e5⟩ := pairs_lie I r rs
    cases (show _ = Value.ref t from rv)
    obtain ⟨its, rr, ip, _⟩ := I.tuple q
    obtain ⟨u1, us1, rfl, r1, rr⟩ : ∃ u1 us1, its = u1 :: us1 ∧ RelV (.ref p.2.1) u1 ∧ Vals [p.2.2] us1 := by
      cases rr with
      | cons a b => exact ⟨_, _, rfl, a, b⟩
    obtain ⟨u2, rfl, r2⟩ := vals1 rr
    cases (show u1 = Value.ref p.2.1 from r1)
    refine ⟨t :: ts, (p.1, p.2.1, u2) :: ys, by rw [e1]; rfl, by simp [e2], .cons ⟨rfl, rfl, r2⟩ e3, fun x hx => ?_, fun j y h => ?_⟩
    · rcases List.mem_cons.mp hx with rfl | hx
      · exact hk
      · exact e4 x hx
    · cases j with
      | zero =>
        simp only [List.getElem?_cons_zero, Option.some.injEq] at h
        subst h
        refine ⟨t, rfl, .inl ?_⟩
        obtain ⟨o, h1, h2, n, h3⟩ := ip
        exact ⟨o, h1, h2, n, h3⟩
      | succ j =>
        simp only [List.getElem?_cons_succ] at h ⊢
        exact e5 j y h
theorem stored_all {pr : Prs} {ys : List (KF × Ad × Value)} (q : Paired PR pr ys) : ∀ {acc : Prs} {zs : List (KF × Ad × Value)}, Paired PR acc zs →
    ∃ zs', Paired PR (putsN acc pr) zs' ∧ storedAllH (zsOf zs) (zsOf ys) = zsOf zs' := by
  induction q with
  | nil => intro acc zs h; exact ⟨zs, h, rfl⟩
  | @cons p y ps ys hq t ih =>
    intro acc zs h
    obtain ⟨z2, q2, e2⟩ := stored_of (k := p.1) (b := p.2.1) h hq.2.2
    obtain ⟨z3, q3, e3⟩ := ih q2
    refine ⟨z3, q3, ?_⟩
    rw [← e3]
    unfold storedAllH zsOf
    rw [List.map_cons, List.foldl_cons]
    have : storedH (zsOf zs) (kN y.1) y.2.1 y.2.2 = zsOf z2 := by rw [← e2, hq.1, hq.2.1]
    exact congrArg (fun l => List.foldl _ l _) this
theorem putsN_len : ∀ (ps acc : Prs), (putsN acc ps).length ≤ acc.length + ps.length
  | [], acc => Nat.le_refl _
  | p :: ps, acc => by
    have h1 := putsN_len ps (putN acc p.1 p.2.1 p.2.2)
    have h2 := valN_len (xs := acc) (k := p.1) (b := p.2.1) (v := p.2.2)
    show (putsN (putN acc p.1 p.2.1 p.2.2) ps).length ≤ _
    rw [List.length_cons]
    omega
theorem call_dictP (hu : X.A.units + 65 < cLine) (hc : X.calm = true) : CallR X (.type "dict") (rDictP X.K) := by
  intro pins s σ H vs us Q I r h
  obtain ⟨a, ws, ps, rfl, e, hp, q⟩ := h
  obtain ⟨u, rfl, rx⟩ := vals1 r
  cases rx
  obtain ⟨its, rv, pl, hz⟩ := I.list e
  obtain ⟨ts, ys, e1, e2, e3, e4, e5⟩ := pairs_lie I hp rv
  have l1 : ps.length = ys.length := pairs_len e3
  have l2 : ws.length = its.length := rv.length
  have l3 : its.length = ts.length := by rw [e1, List.length_map]
  have hu2 : (nestedKind X.prog X.w).room X.A.in1.in1 := by
    show X.A.in1.in1.units + 8 < cLine
    show X.A.units + 1 + 1 + 8 < cLine
    omega
  refine call_dict_pairsH (knd := nestedKind X.prog X.w) (ps := zsOf ys) (PairArg.list a its.toArray (fun j => ts.getD j 0) (ys.map fun y => (.ref y.2.1, y.2.2))) (I.ok.hd hc) hu2 ⟨?_, ?_⟩ ?_ ?_ ?_ fun h' tk dd hs => ?_
  · obtain ⟨o, n, h1, h2, h3, h4⟩ := pl
    exact ⟨o, n, h1, h2, h3, h4⟩
  · refine ⟨by simp [e1, e2, l1], fun j k v hj => ?_⟩
    rw [List.getElem?_map] at hj
    obtain ⟨y, hy, hh⟩ := Option.map_eq_some_iff.mp hj
    obtain ⟨t, ht, hpa⟩ := e5 j y hy
    cases hh
    have : ts.getD j 0 = t := by rw [List.getD_eq_getElem?_getD, ht]; rfl
    show its.toArray[j]? = some (Value.ref (ts.getD j 0)) ∧ PairAt s.heap (ts.getD j 0) _ _
    rw [this]
    refine ⟨?_, hpa⟩
    rw [e1]
    simp [ht]
  · refine ⟨by simp [zsOf], fun i key v hr => ?_⟩
    have hr : (ys.map fun y => ((.ref y.2.1 : Value), y.2.2))[i]? = some (key, v) := hr
    rw [List.getElem?_map] at hr
    obtain ⟨y, hy, hh⟩ := Option.map_eq_some_iff.mp hr
    cases hh
    refine ⟨kN y.1, y.2.1, ?_, rfl⟩
    unfold zsOf
    rw [List.getElem?_map, hy]
    rfl
  · intro h' hk z hz
    obtain ⟨x, hx, f1, f2⟩ := zsOf_mem e3 z hz
    have I' : Inv X pins σ H { s with heap := h' } := I.kept (t' := s.toks) fun b u e => hk b u (Nat.ne_of_lt (Heap.lt_size e)) (fun m => nomatch m) e
    rw [f1, f2]
    exact key_is I' (e4 x hx)
  · rw [List.length_map]; omega
  · have kp : ∀ b u, s.heap.get? b = some u → h'.get? b = some u := fun b u e => hs b u (fun m => nomatch m) e
    have hb : (s.heap.objs.size == sysModules) = false := beq_false_of_ne (Nat.ne_of_gt I.big)
    obtain ⟨zs', q2, e6⟩ := stored_all e3 (acc := []) (zs := []) .nil
    rw [show storedAllH [] (zsOf ys) = zsOf zs' from e6] at dd
    have hl : (putsN [] ps).length ≤ sizeLine := by
      have := putsN_len ps []
      simp only [List.length_nil] at this
      omega
    exact ⟨.ref s.heap.objs.size, _, I.laid (t' := tk) kp (Nat.le_refl _) (dicO_new (dicR_of hl hb q2 dd)), rfl, q _ (I.hok.fresh (Nat.le_refl _))⟩
end
section
variable {K : PySem.W.Frag} {m : Mp} {H : Hp}
theorem putAll_rd : ∀ (vs : List VV) {ws : List V} {acc kvs : List (VV × VV)} {ap : Prs}, Rs K m H vs ws → putAll true vs acc = some kvs → Rp K m H acc (ap.map fun p => (DK.t p.1 p.2.1, p.2.2)) →
    ∃ ps : Prs, PairL K H ws ps ∧ Rp K m H kvs ((putsN ap ps).map fun p => (DK.t p.1 p.2.1, p.2.2)) := by
  intro vs
  induction vs with
  | nil =>
    intro ws acc kvs ap r e h
    cases r
    unfold putAll at e
    cases e
    exact ⟨[], trivial, h⟩
  | cons x vs ih =>
    intro ws acc kvs ap r e h
    cases r with
    | cons rx rs =>
      unfold putAll at e
      split at e
      · rename_i heq
        cases heq
      · rename_i k v r' heq
        injection heq with e1 e2
        subst e1 e2
        cases rx with
        | tup f rr =>
          cases rr with
          | cons rk rr2 =>
            cases rr2 with
            | cons rv rr3 =>
              cases rr3
              split at e
              · rename_i d hd
                split at e
                · rename_i hc
                  rcases key_rd rk hd with ⟨n, rfl, _⟩ | ⟨kf, ks, b, rfl, rfl, hk, rfl, hf⟩
                  · cases hc.1
                  · obtain ⟨ps, p1, p2⟩ := ih rs e (putN_t h hk hf rv)
                    exact ⟨(kf, b, _) :: ps, ⟨⟨_, rfl, f.sq⟩, hf.sq, p1⟩, p2⟩
                · cases e
              · cases e
      · cases e
end
end Tw
set_option Elab.async false
set_option linter.all false
set_option autoImplicit false
set_option maxRecDepth 100000
namespace Tw
open PySem PySem.Spec PyProof.Rows L2 PySem.SeqAt
theorem firstLt_lex (NS MS : List Int) : ∀ (m k : Nat), NS.length - k = m → k ≤ NS.length → k ≤ MS.length →
    firstLt (fun j => decide (NS.getD j 0 = MS.getD j 0)) (fun j => decide (NS.getD j 0 < MS.getD j 0)) (decide (NS.length < MS.length)) (List.range' k (min NS.length MS.length - k)) = lexLt (NS.drop k) (MS.drop k) := by
  intro m
  induction m with
  | zero =>
    intro k hm h1 h2
    have e1 : NS.drop k = [] := List.drop_eq_nil_of_le (by omega)
    have e0 : min NS.length MS.length - k = 0 := by omega
    rw [e0, e1]
    show decide (NS.length < MS.length) = _
    by_cases h : k < MS.length
    · rw [List.drop_eq_getElem_cons h, decide_eq_true (by omega)]
      rfl
    · rw [List.drop_eq_nil_of_le (by omega), decide_eq_false (by omega)]
      rfl
  | succ m ih =>
    intro k hm h1 h2
    have hk : k < NS.length := by omega
    rw [List.drop_eq_getElem_cons hk]
    by_cases h : k < MS.length
    · rw [List.drop_eq_getElem_cons h, show min NS.length MS.length - k = (min NS.length MS.length - (k + 1)) + 1 by omega, List.range'_succ]
      have g1 : NS.getD k 0 = NS[k] := by rw [List.getD_eq_getElem?_getD, List.getElem?_eq_getElem hk]; rfl
      have g2 : MS.getD k 0 = MS[k] := by rw [List.getD_eq_getElem?_getD, List.getElem?_eq_getElem h]; rfl
      unfold lexLt
      by_cases e : NS[k] = MS[k]
      · rw [if_pos e, firstLt_yes (by rw [g1, g2]; exact decide_eq_true e)]
        exact ih (k + 1) (by omega) (by omega) (by omega)
      · rw [if_neg e, firstLt_no (by rw [g1, g2]; exact decide_eq_false e), g1, g2]
    · have e2 : MS.drop k = [] := List.drop_eq_nil_of_le (by omega)
      rw [e2, show min NS.length MS.length - k = 0 by omega]
      show decide (NS.length < MS.length) = _
      rw [decide_eq_false (by omega)]
      rfl
theorem int_dec (x y : Int) : decide (x = y) = (x == y) := by
  rw [Bool.eq_iff_iff]
  simp
section
variable {X : Cx}
def rLtL (K : PySem.W.Frag) : R2 := fun x y H Q => ∃ a b ns ms, x = .ref a ∧ y = .ref b ∧ SqL K H a (ns.map V.int) ∧ SqL K H b (ms.map V.int) ∧ Q (.bl (lexLt ns ms)) H
theorem ints_nth {vs : List Value} {ns : List Int} (h : IntsAre vs ns) {j : Nat} (hj : j < vs.length) : ∃ t, vs[j] = .int (ns.getD j 0) t := by
  induction h generalizing j with
  | nil => cases hj
  | cons n t r ih =>
    cases j with
    | zero => exact ⟨t, rfl⟩
    | succ j => exact ih (by simpa using hj)
theorem op_ltL (hu : X.A.units < cLine) : OpR X (compareOp .Lt) (rLtL X.K) := by
  intro pins s σ H x y v u Q I rx ry h
  obtain ⟨a, b, ns, ms, rfl, rfl, ha, hb, q⟩ := h
  cases rx
  cases ry
  obtain ⟨its, r1, p1, _⟩ := I.list ha
  obtain ⟨its2, r2, p2, _⟩ := I.list hb
  have i1 := r1.ints
  have i2 := r2.ints
  have l1 : its.length = ns.length := by have := r1.length; rw [List.length_map] at this; exact this.symm
  have l2 : its2.length = ms.length := by have := r2.length; rw [List.length_map] at this; exact this.symm
  have k := RcLt.lists (A := X.A) (s := s) (e := fun j => decide (ns.getD j 0 = ms.getD j 0)) (r := fun j => decide (ns.getD j 0 < ms.getD j 0)) p1.isList p2.isList hu (fun j h1 h2 => by
    obtain ⟨t, e1⟩ := ints_nth i1 (j := j) (by simpa using h1)
    obtain ⟨t', e2⟩ := ints_nth i2 (j := j) (by simpa using h2)
    have e1 : its.toArray[j] = .int (ns.getD j 0) t := by simpa using e1
    have e2 : its2.toArray[j] = .int (ms.getD j 0) t' := by simpa using e2
    rw [e1, e2, int_dec]
    exact EqAt.int_int _ _ _ _) fun j h1 h2 _ => by
    obtain ⟨t, e1⟩ := ints_nth i1 (j := j) (by simpa using h1)
    obtain ⟨t', e2⟩ := ints_nth i2 (j := j) (by simpa using h2)
    have e1 : its.toArray[j] = .int (ns.getD j 0) t := by simpa using e1
    have e2 : its2.toArray[j] = .int (ms.getD j 0) t' := by simpa using e2
    rw [e1, e2]
    exact fun _ _ _ _ h => PyProof.Rows.lt_int h
  have e := firstLt_lex ns ms (ns.length - 0) 0 rfl (Nat.zero_le _) (Nat.zero_le _)
  rw [List.drop_zero, List.drop_zero, Nat.sub_zero] at e
  rw [List.size_toArray, List.size_toArray, l1, l2, List.range_eq_range', e] at k
  exact k X.prog X.w X.xe _ ⟨.bl (lexLt ns ms), H, I, rfl, q⟩
end
end Tw
set_option Elab.async false
set_option linter.all false
set_option autoImplicit false
set_option maxRecDepth 100000
namespace Tw
open PySem PySem.Spec PyProof.Rows L2
section
variable {K : PySem.W.Frag} {m : Mp} {H : Hp} {S S' : Hs} {z : VV} {Q : VK}
theorem szL_eq : szL = sizeLine := by rw [sizeLine_eq]; rfl
theorem post_mkL {b : Bool} {xs : List VV} {ys : List V} (h : SimH K m H S) (r : Rs K m H xs ys) (e : mkL b xs S = .ok z S') (p : Post K m H z S' Q) :
    ys.length ≤ sizeLine ∧ ∀ q, H q = none → Q (.ref q) (upd H q (.lst ys)) := by
  unfold mkL at e
  split at e
  · rename_i hl
    refine ⟨by rw [← r.length, ← szL_eq]; exact hl, fun q hq => ?_⟩
    cases b with
    | true =>
      cases e
      refine p (m.push q) _ _ (Ext.newM hq) (h.newM hq r) (.ref ?_)
      show (m.ix ++ [q])[S.length]? = some q
      rw [← h.len]
      simp
    | false =>
      cases e
      exact p m _ _ (Ext.new hq) (h.new hq) (.newL h hq r)
  · cases e
theorem post_mkT {xs : List VV} {ys : List V} (h : SimH K m H S) (r : Rs K m H xs ys) (e : mkT xs S = .ok z S') (p : Post K m H z S' Q) :
    ys.length ≤ sizeLine ∧ ∀ q, H q = none → Q (.ref q) (upd H q (.tup ys)) := by
  unfold mkT at e
  split at e
  · rename_i hl
    cases e
    exact ⟨by rw [← r.length, ← szL_eq]; exact hl, fun q hq => p m _ _ (Ext.new hq) (h.new hq) (.newT h hq r)⟩
  · cases e
end
section
variable {X : Cx}
theorem small_iff {i : Int} : small i = true ↔ (-(2 ^ 64) < i ∧ i < 2 ^ 64) := by simp [small]
theorem two_ints {K : PySem.W.Frag} {m : Mp} {H : Hp} {x y : VV} {v w : V} {a b : Int} (r : R K m H (.int a) v) (q : R K m H (.int b) w) : v = .int a ∧ w = .int b := by
  cases r; cases q; exact ⟨rfl, rfl⟩
def rCatZ : R2 := fun x y H Q => ∃ i j, x = .str i ∧ y = .str j ∧ i.length + j.length ≤ sizeLine ∧ Q (.str (i ++ j)) H
def rBin (K : PySem.W.Frag) (o : Bop) : R2 := match o with
  | .add => fun x y H Q => rI0 (fun i j => .int (i + j)) x y H Q ∨ rCatA K x y H Q ∨ rCat x y H Q ∨ rCatZ x y H Q
  | .sub => rI0 fun i j => .int (i - j)
  | .mul => fun x y H Q => rI CMul (fun i j => .int (i * j)) x y H Q ∨ rRep x y H Q ∨ rRepA K x y H Q ∨ rRepT K x y H Q
  | .fdiv => rI CDivW fun i j => .int (i / j)
  | .mod => rI (fun _ j => 0 < j) fun i j => .int (i % j)
  | .pow => rI CPow fun i j => .int (i ^ j.toNat)
def bopOp : Bop → Operator
  | .add => .Add
  | .sub => .Sub
  | .mul => .Mult
  | .fdiv => .FloorDiv
  | .mod => .Mod
  | .pow => .Pow
theorem opr_bin (o : Bop) : OpR X (binaryOp (bopOp o)) (rBin X.K o) := by
  cases o
  · exact op_add.or (op_catA.or (op_cat.or op_add_str))
  · exact op_sub
  · exact op_mul.or (op_rep.or (op_repA.or op_repT))
  · exact op_fdivW
  · exact op_mod
  · exact op_pow
theorem log2_64 {j : Int} (h : 0 < j) (h2 : j < 2 ^ 64) : j.natAbs.log2 < 9000 := by
  have : j.natAbs < 2 ^ 64 := by omega
  exact Nat.lt_of_lt_of_le (PySem.Flt.log2_lt_of (by decide) this) (by decide)
theorem R.lst_inv {K : PySem.W.Frag} {m : Mp} {H : Hp} {S : Hs} {x : VV} {v : V} {xs : List VV} (h : SimH K m H S) (r : R K m H x v) (e : seqOf S x = some xs) (n : ∀ t, x ≠ .tup t) : ∃ a ys, v = .ref a ∧ H a = some (.lst ys) ∧ Rs K m H xs ys := by
  cases r <;> simp [seqOf] at e
  · exact absurd rfl (n _)
  · subst e
    rename_i a ys f t
    exact ⟨_, _, rfl, FzL.mk1 (by assumption), by assumption⟩
  · rename_i k a hk
    obtain ⟨ys, h1, h2⟩ := h.list hk e
    exact ⟨a, ys, rfl, h1, h2⟩
where FzL.mk1 {m : Mp} {H : Hp} {a : Ad} {ys : List V} (h : FzL m H a ys) : H a = some (.lst ys) := h.1
theorem sd_bin (K : PySem.W.Frag) (b : Bool) (o : Bop) : Op2 K (binG b o) (rBin K o) := by
  intro m H S x y v w z S' Q h rx ry e p
  unfold binG at e
  split at e
  · -- ints
    rename_i i j
    obtain ⟨rfl, rfl⟩ := two_ints (x := .non) (y := .non) rx ry
    unfold binV at e
    simp only at e
    obtain ⟨e1, rfl⟩ := lift_eq_ok e
    cases o
    · cases e1
      exact .inl ⟨i, j, rfl, rfl, p.here h (.int _)⟩
    · cases e1
      exact ⟨i, j, rfl, rfl, p.here h (.int _)⟩
    · unfold arith at e1
      simp only at e1
      split at e1
      · rename_i hs
        cases e1
        refine .inl ⟨i, j, rfl, rfl, ?_, p.here h (.int _)⟩
        rcases Bool.or_eq_true_iff.mp hs with q | q
        · exact .inl (small_iff.mp q)
        · exact .inr (small_iff.mp q)
      · cases e1
    · unfold arith at e1
      simp only at e1
      split at e1
      · rename_i hs
        cases e1
        exact ⟨i, j, rfl, rfl, ⟨hs.1, log2_64 hs.1 hs.2⟩, p.here h (.int _)⟩
      · cases e1
    · unfold arith at e1
      simp only at e1
      split at e1
      · rename_i hs
        cases e1
        exact ⟨i, j, rfl, rfl, hs, p.here h (.int _)⟩
      · cases e1
    · unfold arith at e1
      simp only at e1
      split at e1
      · rename_i hs
        cases e1
        exact ⟨i, j, rfl, rfl, ⟨hs.1, by omega, hs.2.2⟩, p.here h (.int _)⟩
      · cases e1
  · -- tuples
    rename_i xs ys
    unfold binV at e
    simp only at e
    split at e
    · rename_i ho
      subst ho
      cases rx with
      | tup f t =>
        cases ry with
        | tup f2 t2 =>
          obtain ⟨hz, k⟩ := post_mkT h (t.append t2) e p
          refine .inr (.inl ⟨_, _, _, _, rfl, rfl, f.sq, f2.sq, by rw [List.length_append] at hz; exact hz, ?_⟩)
          unfold mkT at e
          split at e
          · cases e
            refine ⟨fun e1 => p.here h ?_, fun _ e1 => p.here h ?_, fun _ _ q hq => k q hq⟩
            · subst e1
              cases t
              exact R.tup f2 t2
            · subst e1
              cases t2
              rw [List.append_nil]
              exact R.tup f t
          · cases e
    · cases e
  · -- texts
    rename_i a b'
    unfold catS at e
    split at e
    · rename_i hc
      obtain ⟨rfl, hl⟩ := hc
      cases e
      cases rx
      cases ry
      exact .inr (.inr (.inr ⟨a, b', rfl, rfl, by rw [← szL_eq]; exact hl, p.here h (.str _)⟩))
    · cases e
  · -- lists
    rename_i n1 n2 n3
    unfold binL at e
    split at e
    · -- a list times a number
      rename_i k
      split at e
      · rename_i xs
        split at e
        · cases e
        · rename_i hxs
          have hne : xs ≠ [] := fun z => hxs (by rw [z]; rfl)
          cases ry
          cases rx with
          | tup f t =>
            rename_i ys0
            have hne2 : ys0 ≠ [] := fun z => hne (List.eq_nil_of_length_eq_zero (by rw [t.length, z]; rfl))
            split at e
            · rename_i hk
              cases e
              exact .inr (.inr (.inl ⟨_, k, _, rfl, rfl, f.sq, hne2, .inl ⟨hk, p.here h (.tup f t)⟩⟩))
            · split at e
              · rename_i hk
                obtain ⟨_, kk⟩ := post_mkT h .nil e p
                exact .inr (.inr (.inl ⟨_, k, _, rfl, rfl, f.sq, hne2, .inr ⟨by omega, hk.2, kk⟩⟩))
              · split at e
                · rename_i hk
                  obtain ⟨_, kk⟩ := post_mkT h (t.rep k.toNat) e p
                  exact .inr (.inr (.inr ⟨_, k, _, rfl, rfl, f.sq, hne2, hk.1, hk.2.1, by rw [← t.length]; exact hk.2.2, kk⟩))
                · cases e
      · rename_i hn
        split at e
        · rename_i xs hx
          split at e
          · rename_i hc
            obtain ⟨h1, h2, h3⟩ := hc
            obtain ⟨a, ys, rfl, ha, t⟩ := R.lst_inv h rx hx (fun t q => hn t q)
            cases ry
            obtain ⟨_, kk⟩ := post_mkL h (t.rep k.toNat) e p
            exact .inr (.inl ⟨a, k, ys, rfl, rfl, ha, by omega, by omega, by rw [← t.length, ← szL_eq]; exact h3, kk⟩)
          · cases e
        · cases e
    · split at e
      · cases e
      · cases e
      · rename_i t1 t2
        split at e
        · rename_i xs ys hx hy
          obtain ⟨a, us, rfl, ha, t⟩ := R.lst_inv h rx hx (fun t q => by first | exact t1 t q | (subst q; simp_all))
          obtain ⟨b2, ws, rfl, hb, t2⟩ := R.lst_inv h ry hy (fun t q => by first | exact t2 t q | (subst q; simp_all))
          obtain ⟨hz, kk⟩ := post_mkL h (t.append t2) e p
          exact .inr (.inr (.inl ⟨a, b2, us, ws, rfl, rfl, ha, hb, by rw [List.length_append] at hz; exact hz, kk⟩))
        · cases e
    · cases e
end
section
variable {K : PySem.W.Frag} {m : Mp} {H : Hp} {S : Hs}
theorem DpAll_of {n : Nat} (f : ∀ (x : VV) (v : V) (d : PyData), R K m H x v → toD n S x = some d → Dp K H v d ∧ d.canLay0 = true ∧ d.depth ≤ n) :
    ∀ {xs : List VV} {vs : List V} {ds : List PyData}, Rs K m H xs vs → mapO (toD n S) xs = some ds → DpAll K H vs ds ∧ PyData.canLayAll0 ds = true ∧ PyData.depthAll ds ≤ n
  | [], _, ds, .nil, e => by cases e; exact ⟨.nil, rfl, Nat.zero_le _⟩
  | x :: xs, _, ds, .cons r t, e => by
    unfold mapO at e
    split at e
    · rename_i d ds' e1 e2
      cases e
      obtain ⟨h1, h2, h3⟩ := f x _ d r e1
      obtain ⟨g1, g2, g3⟩ := DpAll_of f t e2
      refine ⟨.cons h1 g1, by simp only [PyData.canLayAll0, h2, g2, Bool.and_self], ?_⟩
      simp only [PyData.depthAll]
      exact Nat.max_le.mpr ⟨h3, g3⟩
    · cases e
theorem toD_ok (h : SimH K m H S) : ∀ (n : Nat) (x : VV) (v : V) (d : PyData), R K m H x v → toD n S x = some d → Dp K H v d ∧ d.canLay0 = true ∧ d.depth ≤ n := by
  have strz : ∀ (n : Nat) (y : Str) (d : PyData), (if PyData.strOk y then some (PyData.str y) else none) = some d → Dp K H (.str y) d ∧ d.canLay0 = true ∧ d.depth ≤ n := fun n y d e => by
    split at e
    · rename_i hs
      cases e
      exact ⟨.str y, by simpa only [PyData.canLay0] using hs, Nat.zero_le _⟩
    · cases e
  have lists : ∀ (n : Nat) (a : Ad) (ys : List V) (ds : List PyData), SqL K H a ys → (DpAll K H ys ds ∧ PyData.canLayAll0 ds = true ∧ PyData.depthAll ds ≤ n) → Dp K H (.ref a) (.list ds) ∧ (PyData.list ds).canLay0 = true ∧ (PyData.list ds).depth ≤ n + 1 := fun n a ys ds q ⟨q1, q2, q3⟩ =>
    ⟨.lst q q1, by simpa only [PyData.canLay0] using q2, by simp only [PyData.depth]; omega⟩
  intro n
  induction n with
  | zero =>
    intro x v d r e
    cases r with
    | non => cases e; exact ⟨.non, rfl, Nat.le_refl _⟩
    | bl b => cases e; exact ⟨.bl b, rfl, Nat.le_refl _⟩
    | int i => cases e; exact ⟨.int i, rfl, Nat.le_refl _⟩
    | str y => exact strz 0 y d e
    | tup f t => cases e
    | lst f t => cases e
    | scr f t => cases e
    | ref hk => cases e
    | dct _ _ _ _ => cases e
    | exc _ _ _ _ _ _ => cases e
  | succ n ih =>
    intro x v d r e
    cases r with
    | non => cases e; exact ⟨.non, rfl, Nat.zero_le _⟩
    | bl b => cases e; exact ⟨.bl b, rfl, Nat.zero_le _⟩
    | int i => cases e; exact ⟨.int i, rfl, Nat.zero_le _⟩
    | str y => exact strz (n + 1) y d e
    | tup f t =>
      obtain ⟨ds, e1, rfl⟩ := Option.map_eq_some_iff.mp e
      obtain ⟨q1, q2, q3⟩ := DpAll_of ih t e1
      exact ⟨.tup f.sq q1, by simpa only [PyData.canLay0] using q2, by simp only [PyData.depth]; omega⟩
    | lst f t =>
      obtain ⟨ds, e1, rfl⟩ := Option.map_eq_some_iff.mp e
      exact lists n _ _ ds f.sq (DpAll_of ih t e1)
    | scr f t => cases e
    | @ref k a hk =>
      have e' : (match kid S k with
        | some xs => (mapO (toD n S) xs).map PyData.list
        | none => none) = some d := e
      split at e'
      · rename_i xs hx
        obtain ⟨ds, e1, rfl⟩ := Option.map_eq_some_iff.mp e'
        obtain ⟨ys, h1, h2⟩ := h.list hk hx
        exact lists n _ _ ds (SqL.of h1) (DpAll_of ih h2 e1)
      · cases e'
    | dct _ _ _ _ => cases e
    | exc _ _ _ _ _ _ => cases e
theorem shaped_of {d : PyData} (h1 : d.canLay0 = true) (h2 : d.depth ≤ 64) : SeqAt.shaped d = true := by
  unfold SeqAt.shaped
  rw [h1, Bool.true_and]
  exact decide_eq_true h2
end
section
variable {X : Cx}
def rInT (K : PySem.W.Frag) (neg : Bool) : R2 := fun x y H Q => ∃ d ds, Dp K H x d ∧ Dp K H y (.tuple ds) ∧ SeqAt.shaped d = true ∧ SeqAt.shaped (.tuple ds) = true ∧ Q (.bl (if neg then !(ds.any fun z => PyData.eqv z d) else ds.any fun z => PyData.eqv z d)) H
theorem op_inT (hu : X.A.units + 65 < cLine) : OpR X (compareOp .In) (rInT X.K false) := by
  intro pins s σ H x y v u Q I rx ry h
  obtain ⟨d, ds, hd, he, sd, se, q⟩ := h
  obtain ⟨as, r1⟩ := Dp.reads I d x v hd rx
  obtain ⟨bs, r2⟩ := Dp.reads I (.tuple ds) y u he ry
  exact SeqAt.in_tuple_reads r2 r1 (SeqAt.canLay_of_shaped se) (SeqAt.canLay_of_shaped sd) (room_in_shaped sd hu) ⟨.bl _, H, I, rfl, q⟩
theorem op_notInT (hu : X.A.units + 65 < cLine) : OpR X (compareOp .NotIn) (rInT X.K true) := by
  intro pins s σ H x y v u Q I rx ry h
  obtain ⟨d, ds, hd, he, sd, se, q⟩ := h
  obtain ⟨as, r1⟩ := Dp.reads I d x v hd rx
  obtain ⟨bs, r2⟩ := Dp.reads I (.tuple ds) y u he ry
  exact SeqAt.notIn_tuple_reads r2 r1 (SeqAt.canLay_of_shaped se) (SeqAt.canLay_of_shaped sd) (room_in_shaped sd hu) ⟨.bl _, H, I, rfl, q⟩
def copOp : Cop → CmpOp
  | .eq => .Eq
  | .ne => .NotEq
  | .lt => .Lt
  | .le => .LtE
  | .gt => .Gt
  | .ge => .GtE
  | .isin => .In
  | .notin => .NotIn
  | .is_ => .Is
  | .isnot => .IsNot
def rInZ (neg : Bool) : R2 := fun x y H Q => ∃ (c : Nat) (z : Str), x = .str ⟨#[c]⟩ ∧ y = .str z ∧ Q (.bl (neg != decide (c ∈ z.cps.toList))) H
theorem op_inZ : OpR X (compareOp .In) (rInZ false) := fun pins s σ H x y v u Q I rx ry ⟨c, z, e1, e2, q⟩ => op_in_sign pins s σ H x y v u Q I rx ry ⟨c, z, e1, e2, by rw [Bool.false_bne] at q; exact q⟩
theorem op_notInZ : OpR X (compareOp .NotIn) (rInZ true) := fun pins s σ H x y v u Q I rx ry ⟨c, z, e1, e2, q⟩ => op_notIn_sign pins s σ H x y v u Q I rx ry ⟨c, z, e1, e2, by rw [Bool.true_bne] at q; exact q⟩
def rCmp (K : PySem.W.Frag) : Cop → R2
  | .eq => fun x y H Q => rEqD K x y H Q ∨ rEq x y H Q
  | .ne => fun x y H Q => rNeD K x y H Q ∨ rNe x y H Q
  | .lt => fun x y H Q => (rI0 (fun i j => .bl (decide (i < j))) x y H Q ∨ rLtT K x y H Q) ∨ rLtL K x y H Q
  | .le => rI0 fun i j => .bl (decide (i ≤ j))
  | .gt => rI0 fun i j => .bl (decide (j < i))
  | .ge => rI0 fun i j => .bl (decide (j ≤ i))
  | .isin => fun x y H Q => ((rInD K x y H Q ∨ rInT K false x y H Q) ∨ rInX K false x y H Q) ∨ rInZ false x y H Q
  | .notin => fun x y H Q => ((rNotInD K x y H Q ∨ rInT K true x y H Q) ∨ rInX K true x y H Q) ∨ rInZ true x y H Q
  | .is_ => fun x y H Q => (y = .non ∧ Q (.bl (decide (x = .non))) H) ∨ rIsB x y H Q
  | .isnot => fun x y H Q => (y = .non ∧ Q (.bl (!decide (x = .non))) H) ∨ rNotB x y H Q
theorem opr_cmp (hu : X.A.units + 65 < cLine) (o : Cop) : OpR X (compareOp (copOp o)) (rCmp X.K o) := by
  cases o
  · exact (op_eqD (by omega)).or op_eq
  · exact (op_neD (by omega)).or op_ne
  · exact (op_lt.or (op_ltT (by omega))).or (op_ltL (by omega))
  · exact op_le
  · exact op_gt
  · exact op_ge
  · exact (((op_inD hu).or (op_inT hu)).or (op_inX hu)).or op_inZ
  · exact (((op_notInD hu).or (op_notInT hu)).or (op_notInX hu)).or op_notInZ
  · exact op_isN.or op_isBl
  · exact op_notN.or op_notBl
theorem lexLt_eq : ∀ ns ms : List Int, lexLt ns ms = HT.lexLt ns ms
  | [], [] => rfl
  | [], _ :: _ => rfl
  | _ :: _, [] => rfl
  | x :: xs, y :: ys => by
    rw [HT.lexLt_cons, ← lexLt_eq xs ys]
    rfl
theorem sd_eqs {K : PySem.W.Frag} {m : Mp} {H : Hp} {S : Hs} {x y : VV} {v w : V} {b : Bool} (h : SimH K m H S) (rx : R K m H x v) (ry : R K m H y w) (e : eqV S x y = some b) :
    ∃ d e, Dp K H v d ∧ Dp K H w e ∧ SeqAt.shaped d = true ∧ SeqAt.shaped e = true ∧ b = PyData.eqv d e := by
  unfold eqV at e
  split at e
  · rename_i d1 d2 e1 e2
    cases e
    obtain ⟨h1, h2, h3⟩ := toD_ok h _ _ _ _ rx e1
    obtain ⟨g1, g2, g3⟩ := toD_ok h _ _ _ _ ry e2
    have hd : dpt ≤ 64 := by decide
    exact ⟨d1, d2, h1, g1, shaped_of h2 (by omega), shaped_of g2 (by omega), rfl⟩
  · cases e
theorem sd_eqx {K : PySem.W.Frag} {m : Mp} {H : Hp} {S : Hs} {x y : VV} {v w : V} {b : Bool} (h : SimH K m H S) (rx : R K m H x v) (ry : R K m H y w) (e : eqX S x y = some b) :
    (∃ d e, Dp K H v d ∧ Dp K H w e ∧ SeqAt.shaped d = true ∧ SeqAt.shaped e = true ∧ b = PyData.eqv d e) ∨ (scal v w = true ∧ b = decide (v = w)) := by
  unfold eqX at e
  split at e
  · rename_i a c
    cases e
    cases rx
    cases ry
    refine .inr ⟨rfl, ?_⟩
    rw [Bool.eq_iff_iff]
    simp
  · exact .inl (sd_eqs h rx ry e)
theorem one_sign {a : Str} (h : a.cps.size = 1) : a = ⟨#[a.cps.getD 0 0]⟩ := by
  obtain ⟨⟨l⟩⟩ := a
  have h : l.length = 1 := h
  match l, h with
  | [c], _ => rfl
theorem sd_in {K : PySem.W.Frag} {m : Mp} {H : Hp} {S : Hs} {x y : VV} {v w : V} {b : Bool} (h : SimH K m H S) (rx : R K m H x v) (ry : R K m H y w) (e : inV S x y = some b) :
    (∃ d ds, Dp K H v d ∧ SeqAt.shaped d = true ∧ (b = ds.any fun z => PyData.eqv z d) ∧ ((Dp K H w (.list ds) ∧ SeqAt.shaped (.list ds) = true) ∨ (Dp K H w (.tuple ds) ∧ SeqAt.shaped (.tuple ds) = true))) ∨ (∃ a r, w = .ref a ∧ XGet K H a v r ∧ b = r.isSome) ∨ ∃ (c : Nat) (z : Str), v = .str ⟨#[c]⟩ ∧ w = .str z ∧ b = decide (c ∈ z.cps.toList) := by
  unfold inV at e
  split at e
  · rename_i ys hy
    split at e
    · rename_i d ds e1 e2
      cases e
      have hd : dpt ≤ 64 := by decide
      obtain ⟨h1, h2, h3⟩ := toD_ok h _ _ _ _ rx e1
      obtain ⟨a, us, rfl, q, t⟩ := seq_rd h ry hy
      obtain ⟨g1, g2, g3⟩ := DpAll_of (toD_ok h _) t e2
      have hd2 : dpt - 1 ≤ 63 := by decide
      refine .inl ⟨d, ds, h1, shaped_of h2 (by omega), rfl, ?_⟩
      rcases q with q | q
      · exact .inl ⟨.lst q g1, shaped_of (by simpa only [PyData.canLay0] using g2) (by simp only [PyData.depth]; omega)⟩
      · exact .inr ⟨.tup q g1, shaped_of (by simpa only [PyData.canLay0] using g2) (by simp only [PyData.depth]; omega)⟩
    · cases e
  · split at e
    · rename_i b' e0
      cases e
      obtain ⟨o, e1, rfl⟩ := Option.map_eq_some_iff.mp e0
      obtain ⟨a, r, h1, h2, h3⟩ := get_rd h ry rx e1
      exact .inr (.inl ⟨a, r, h1, h2, h3.isSome⟩)
    · unfold inS at e
      split at e
      · split at e
        · rename_i hs
          cases e
          cases rx
          cases ry
          exact .inr (.inr ⟨_, _, congrArg V.str (one_sign hs), rfl, rfl⟩)
        · cases e
      · cases e
theorem sd_cmp (K : PySem.W.Frag) (o : Cop) : Op2 K (gCmp o) (rCmp K o) := by
  intro m H S x y v w z S' Q h rx ry e p
  unfold gCmp at e
  obtain ⟨e1, rfl⟩ := lift_eq_ok e
  obtain ⟨b, e2, rfl⟩ := Option.map_eq_some_iff.mp e1
  have q : Q (.bl b) H := p.here h (.bl b)
  cases o with
  | eq =>
    rcases sd_eqx h rx ry e2 with ⟨d, d', h1, h2, h3, h4, rfl⟩ | ⟨h1, rfl⟩
    · exact .inl ⟨d, d', h1, h2, h3, h4, q⟩
    · exact .inr ⟨h1, q⟩
  | ne =>
    obtain ⟨c, e3, rfl⟩ := Option.map_eq_some_iff.mp e2
    rcases sd_eqx h rx ry e3 with ⟨d, d', h1, h2, h3, h4, rfl⟩ | ⟨h1, rfl⟩
    · exact .inl ⟨d, d', h1, h2, h3, h4, q⟩
    · exact .inr ⟨h1, q⟩
  | lt =>
    have e3 : ltV S' x y = some b := e2
    clear e2
    have e2 := e3
    clear e3
    unfold ltV at e2
    split at e2
    · rename_i i j
      cases e2
      obtain ⟨rfl, rfl⟩ := two_ints (x := .non) (y := .non) rx ry
      exact .inl (.inl ⟨i, j, rfl, rfl, q⟩)
    · rename_i xs ys
      split at e2
      · rename_i ns ms h1 h2
        cases e2
        cases rx with
        | tup f t =>
          cases ry with
          | tup f2 t2 =>
            cases Rs.ints h1 t
            cases Rs.ints h2 t2
            exact .inl (.inr ⟨_, _, ns, ms, rfl, rfl, f.sq, f2.sq, by rw [← lexLt_eq]; exact q⟩)
      · cases e2
    · rename_i xs ys
      split at e2
      · rename_i ns ms h1 h2
        cases e2
        cases rx with
        | lst f t =>
          cases ry with
          | lst f2 t2 =>
            cases Rs.ints h1 t
            cases Rs.ints h2 t2
            exact .inr ⟨_, _, ns, ms, rfl, rfl, f.sq, f2.sq, q⟩
      · cases e2
    · cases e2
  | le =>
    simp only [cmpV] at e2
    split at e2
    · rename_i i j
      cases e2
      obtain ⟨rfl, rfl⟩ := two_ints (x := .non) (y := .non) rx ry
      exact ⟨i, j, rfl, rfl, q⟩
    · cases e2
  | gt =>
    simp only [cmpV] at e2
    split at e2
    · rename_i i j
      cases e2
      obtain ⟨rfl, rfl⟩ := two_ints (x := .non) (y := .non) rx ry
      exact ⟨i, j, rfl, rfl, q⟩
    · cases e2
  | ge =>
    simp only [cmpV] at e2
    split at e2
    · rename_i i j
      cases e2
      obtain ⟨rfl, rfl⟩ := two_ints (x := .non) (y := .non) rx ry
      exact ⟨i, j, rfl, rfl, q⟩
    · cases e2
  | isin =>
    rcases sd_in h rx ry e2 with ⟨d, ds, h1, h2, rfl, q2 | q2⟩ | ⟨a, r, h1, h2, rfl⟩ | ⟨c, z, h1, h2, rfl⟩
    · exact .inl (.inl (.inl ⟨d, ds, h1, q2.1, h2, q2.2, q⟩))
    · exact .inl (.inl (.inr ⟨d, ds, h1, q2.1, h2, q2.2, q⟩))
    · exact .inl (.inr ⟨a, r, h1, h2, by rw [show (false != r.isSome) = r.isSome by cases r.isSome <;> rfl]; exact q⟩)
    · exact .inr ⟨c, z, h1, h2, by rw [Bool.false_bne]; exact q⟩
  | notin =>
    obtain ⟨c, e3, rfl⟩ := Option.map_eq_some_iff.mp e2
    rcases sd_in h rx ry e3 with ⟨d, ds, h1, h2, rfl, q2 | q2⟩ | ⟨a, r, h1, h2, rfl⟩ | ⟨c, z, h1, h2, rfl⟩
    · exact .inl (.inl (.inl ⟨d, ds, h1, q2.1, h2, q2.2, q⟩))
    · exact .inl (.inl (.inr ⟨d, ds, h1, q2.1, h2, q2.2, q⟩))
    · exact .inl (.inr ⟨a, r, h1, h2, by rw [show (true != r.isSome) = !r.isSome by cases r.isSome <;> rfl]; exact q⟩)
    · exact .inr ⟨c, z, h1, h2, by rw [Bool.true_bne]; exact q⟩
  | is_ =>
    have e3 : isV x y = some b := e2
    clear e2
    have e2 := e3
    clear e3
    unfold isV at e2
    split at e2
    · rename_i i j
      cases e2
      cases rx
      cases ry
      exact .inr ⟨i, j, rfl, rfl, q⟩
    · cases e2
      cases rx
      cases ry
      exact .inl ⟨rfl, q⟩
    · rename_i n1
      cases e2
      cases ry
      refine .inl ⟨rfl, ?_⟩
      have : decide (v = V.non) = false := by
        cases rx <;> first | rfl | exact absurd rfl n1
      rw [this]
      exact q
    · cases e2
  | isnot =>
    obtain ⟨c, e3, rfl⟩ := Option.map_eq_some_iff.mp e2
    unfold isV at e3
    split at e3
    · rename_i i j
      cases e3
      cases rx
      cases ry
      exact .inr ⟨i, j, rfl, rfl, q⟩
    · cases e3
      cases rx
      cases ry
      exact .inl ⟨rfl, q⟩
    · rename_i n1
      cases e3
      cases ry
      refine .inl ⟨rfl, ?_⟩
      have : decide (v = V.non) = false := by
        cases rx <;> first | rfl | exact absurd rfl n1
      rw [this]
      exact q
    · cases e3
theorem tru_of {K : PySem.W.Frag} {m : Mp} {H : Hp} {S : Hs} {x : VV} {v : V} {b : Bool} (h : SimH K m H S) (r : R K m H x v) (e : trV S x = some b) : TruV K v H b := by
  have em : ∀ {xs : List VV} {ys : List V}, Rs K m H xs ys → (!xs.isEmpty) = !ys.isEmpty := fun t => by cases t <;> rfl
  cases r with
  | non => cases e; rfl
  | bl c => cases e; rfl
  | int i => cases e; rfl
  | str y =>
    have e' : (if y.length ≤ szL then some (y.length != 0) else none) = some b := e
    split at e'
    · rename_i hl
      cases e'
      exact ⟨by rw [← szL_eq]; exact hl, by
        show (y.length != 0) = ((y.length : Int) != 0)
        cases y.length <;> rfl⟩
    · cases e'
  | tup f t =>
    cases e
    exact .inr (.inl ⟨_, f.sq, em t⟩)
  | lst f t =>
    cases e
    exact .inl ⟨_, f.sq, em t⟩
  | scr f t => cases e
  | ref hk =>
    obtain ⟨xs, e1, rfl⟩ := Option.map_eq_some_iff.mp e
    obtain ⟨ys, h1, h2⟩ := h.list hk e1
    exact .inl ⟨_, SqL.of h1, em h2⟩
  | dct _ _ _ _ => cases e
  | exc _ _ _ _ _ _ => cases e
end
section
variable {X : Cx}
theorem sd_neg (K : PySem.W.Frag) : Op1 K gNeg (rU fun i => .int (-i)) := by
  intro m H S x v z S' Q h r e p
  unfold gNeg at e
  obtain ⟨e1, rfl⟩ := lift_eq_ok e
  obtain ⟨i, e2, rfl⟩ := Option.map_eq_some_iff.mp e1
  cases r <;> simp [intOf] at e2
  subst e2
  exact ⟨_, rfl, p.here h (.int _)⟩
theorem natIx_eq (n : Nat) (i : Int) : natIx n i = ixN n i := rfl
def rIdx (K : PySem.W.Frag) : R2 := fun x y H Q => rIx K x y H Q ∨ rItX K x y H Q
theorem ix_all (hu : X.A.units + 65 < cLine) : IxR X (rIdx X.K) := ix_seq.or (ix_X hu)
theorem getLI_rd {K : PySem.W.Frag} {m : Mp} {H : Hp} {S : Hs} {x y z : VV} {v w : V} (h : SimH K m H S) (rx : R K m H x v) (ry : R K m H y w) (e : getLI S x y = some z) : ∃ a u, v = .ref a ∧ XGet K H a w (some u) ∧ R K m H z u := by
  unfold getLI at e
  split at e
  · rename_i k
    split at e
    · rename_i kvs es
      split at e
      · rename_i i
        cases ry
        cases rx with
        | ref hk =>
          obtain ⟨od, xs, o, h1, h2, h3⟩ := h.obj k _ _ es hk
          rcases h2 with ⟨_, ps, rfl, rfl⟩ | ⟨z, _⟩
          · have q := look_i (n := i) h3
            rw [e] at q
            cases hq : valV (ps.map fun p => ((Sum.inl p.1 : L2.Key), p.2)) (Sum.inl i) with
            | none => rw [hq] at q; exact q.elim
            | some u =>
              rw [hq] at q
              exact ⟨_, u, rfl, .inl (.inl ⟨_, Sum.inl i, .inr ⟨od, h1⟩, rfl, hq.symm⟩), q⟩
          · cases z
      · cases e
    · cases e
  · cases e
theorem sd_idx (K : PySem.W.Frag) : Op2 K gIdx (rIdx K) := by
  intro m H S x y v w z S' Q h rx ry e p
  unfold gIdx at e
  split at e
  · rename_i xs e2
    split at e
    · rename_i j e1
      obtain ⟨e3, rfl⟩ := lift_eq_ok e
      obtain ⟨rfl, rfl⟩ : y = .int j ∧ w = .int j := by
        cases ry <;> simp [intOf] at e1
        subst e1
        exact ⟨rfl, rfl⟩
      obtain ⟨a, ys, rfl, q, t⟩ := seq_rd h rx e2
      unfold atV at e3
      obtain ⟨n, hn, hx⟩ := Option.bind_eq_some_iff.mp e3
      obtain ⟨u, hu, ru⟩ := t.get hx
      have ha : atI ys j = some u := by
        unfold atI
        rw [← t.length, ← natIx_eq, hn]
        exact hu
      rcases q with q | q
      · exact .inl (.inl ⟨a, ys, _, u, rfl, rfl, q, ha, p.here h ru⟩)
      · exact .inl (.inr (.inl ⟨a, ys, _, u, rfl, rfl, q, ha, p.here h ru⟩))
    · cases e
  · split at e
    · rename_i o e1
      obtain ⟨e3, rfl⟩ := lift_eq_ok e
      obtain ⟨a, r, rfl, h2, h3⟩ := get_rd h rx ry e1
      subst e3
      cases r with
      | none => exact h3.elim
      | some u => exact .inr ⟨a, u, rfl, h2, p.here h h3⟩
    · obtain ⟨e3, rfl⟩ := lift_eq_ok e
      rcases Option.or_eq_some_iff.mp e3 with e3 | ⟨_, e3⟩
      · unfold atS at e3
        split at e3
        · split at e3
          · rename_i hl
            obtain ⟨c, hc, rfl⟩ := Option.map_eq_some_iff.mp e3
            cases rx
            cases ry
            exact .inl (.inr (.inr ⟨_, _, c, rfl, rfl, by rw [← szL_eq]; exact hl, hc, p.here h (.str _)⟩))
          · cases e3
        · cases e3
      · obtain ⟨a, u, rfl, g, ru⟩ := getLI_rd h rx ry e3
        exact .inr ⟨a, u, rfl, g, p.here h ru⟩
theorem ixB_eq (n d : Nat) (o : Option Int) : ixB n d o = HT.sIx n d o := by
  cases o <;> rfl
theorem cut_rd {K : PySem.W.Frag} {m : Mp} {H : Hp} {xs : List VV} {ys : List V} (t : Rs K m H xs ys) (l u : Option Int) : Rs K m H (cut xs l u) (cutV ys l u) := by
  unfold cut cutV
  rw [ixB_eq, ixB_eq, t.length]
  exact (t.drop _).take _
def rSl (K : PySem.W.Frag) : V → Option Int → Option Int → Hp → VK → Prop := fun x lo hi H Q => (rSlL K x lo hi H Q ∨ rSlA K x lo hi H Q) ∨ rSlS x lo hi H Q
theorem slr_seq : SlR X (rSl X.K) := (sl_list.or sl_tupA).or sl_str
theorem sd_sl {K : PySem.W.Frag} {m : Mp} {H : Hp} {S S' : Hs} {b : Bool} {x z : VV} {v : V} {l u : Option Int} {Q : VK} (h : SimH K m H S) (r : R K m H x v) (e : gSl b x l u S = .ok z S') (p : Post K m H z S' Q) : rSl K v l u H Q := by
  unfold gSl at e
  split at e
  · cases r with
    | tup f t =>
      cases e
      rename_i a ys
      have hs := FzT.sq f
      refine .inl (.inr ⟨_, _, rfl, hs, fun q => p.here h ?_, fun _ q hq => ?_⟩)
      · unfold cut
        rw [ixB_eq, ixB_eq, t.length, q.1, q.2, List.drop_zero, Nat.sub_zero, ← t.length, List.take_length]
        exact .tup f t
      · exact p m _ _ (Ext.new hq) (h.new hq) (.newT h hq (cut_rd t l u))
  · cases r with
    | scr f t => exact .inl (.inl ⟨_, _, rfl, f.sq, (post_mkL h (cut_rd t l u) e p).2⟩)
  · split at e
    · rename_i hl
      cases e
      cases r
      exact .inr ⟨_, rfl, by rw [← szL_eq]; exact hl, p.here h (.str _)⟩
    · cases e
  · cases r with
    | lst f t => exact .inl (.inl ⟨_, _, rfl, f.sq, (post_mkL h (cut_rd t l u) e p).2⟩)
  · split at e
    · rename_i hk
      cases r with
      | ref hr =>
        obtain ⟨ys, h1, h2⟩ := h.list hr hk
        exact .inl (.inl ⟨_, _, rfl, SqL.of h1, (post_mkL h (cut_rd h2 l u) e p).2⟩)
    · cases e
  · cases e
end
section
variable {X : Cx} {K : PySem.W.Frag} {m : Mp} {H : Hp} {S : Hs}
theorem Rs.one {x : VV} {vs : List V} (t : Rs K m H [x] vs) : ∃ v, vs = [v] ∧ R K m H x v := by
  cases t with
  | cons r t => cases t; exact ⟨_, rfl, r⟩
theorem Rs.three {x y z : VV} {vs : List V} (t : Rs K m H [x, y, z] vs) : ∃ u v w, vs = [u, v, w] ∧ R K m H x u ∧ R K m H y v ∧ R K m H z w := by
  cases t with | cons r t => cases t with | cons r2 t => cases t with | cons r3 t => cases t; exact ⟨_, _, _, rfl, r, r2, r3⟩
theorem Rs.two {x y : VV} {vs : List V} (t : Rs K m H [x, y] vs) : ∃ v w, vs = [v, w] ∧ R K m H x v ∧ R K m H y w := by
  cases t with
  | cons r t =>
    obtain ⟨w, rfl, q⟩ := t.one
    exact ⟨_, _, rfl, r, q⟩
theorem lst_rd {x : VV} {v : V} {xs : List VV} (h : SimH K m H S) (r : R K m H x v) (e : lstOf S x = some xs) : ∃ a ys, v = .ref a ∧ H a = some (.lst ys) ∧ Rs K m H xs ys := by
  cases r <;> simp [lstOf] at e
  · subst e
    rename_i f t
    exact ⟨_, _, rfl, FzL.mk2 (by assumption), by assumption⟩
  · rename_i k a hk
    obtain ⟨ys, h1, h2⟩ := h.list hk e
    exact ⟨a, ys, rfl, h1, h2⟩
where FzL.mk2 {m : Mp} {H : Hp} {a : Ad} {ys : List V} (h : FzL m H a ys) : H a = some (.lst ys) := h.1
theorem ints_rd {x : VV} {v : V} {ns : List Int} (h : SimH K m H S) (r : R K m H x v) (e : seqInts S x = some ns) : ∃ a, v = .ref a ∧ H a = some (.lst (ns.map V.int)) := by
  obtain ⟨xs, e1, e2⟩ := Option.bind_eq_some_iff.mp e
  obtain ⟨a, ys, rfl, ha, t⟩ := lst_rd h r e1
  cases Rs.ints e2 t
  exact ⟨a, rfl, ha⟩
theorem bls_rd {x : VV} {v : V} {ns : List Bool} (h : SimH K m H S) (r : R K m H x v) (e : seqBls S x = some ns) : ∃ a, v = .ref a ∧ H a = some (.lst (ns.map V.bl)) := by
  obtain ⟨xs, e1, e2⟩ := Option.bind_eq_some_iff.mp e
  obtain ⟨a, ys, rfl, ha, t⟩ := lst_rd h r e1
  cases Rs.bls e2 t
  exact ⟨a, rfl, ha⟩
theorem foldl_max : ∀ (xs : List Int) (a : Int), (xs.foldl (fun a b => if b > a then b else a) a) ∈ a :: xs ∧ ∀ y ∈ a :: xs, y ≤ xs.foldl (fun a b => if b > a then b else a) a
  | [], a => by simp
  | x :: xs, a => by
    obtain ⟨h1, h2⟩ := foldl_max xs (if x > a then x else a)
    refine ⟨?_, fun y hy => ?_⟩
    · show List.foldl _ (if x > a then x else a) xs ∈ _
      rcases List.mem_cons.mp h1 with e | e
      · rw [e]
        split <;> simp
      · simp [e]
    · show y ≤ List.foldl _ (if x > a then x else a) xs
      have h3 := h2 (if x > a then x else a) List.mem_cons_self
      rcases List.mem_cons.mp hy with rfl | hy
      · split at h3 <;> rename_i q
        · rw [if_pos q]; omega
        · rw [if_neg q]; omega
      · rcases List.mem_cons.mp hy with rfl | hy
        · split at h3 <;> rename_i q
          · rw [if_pos q]; omega
          · rw [if_neg q]; omega
        · exact h2 y (List.mem_cons_of_mem _ hy)
theorem foldl_min : ∀ (xs : List Int) (a : Int), (xs.foldl (fun a b => if b < a then b else a) a) ∈ a :: xs ∧ ∀ y ∈ a :: xs, xs.foldl (fun a b => if b < a then b else a) a ≤ y
  | [], a => by simp
  | x :: xs, a => by
    obtain ⟨h1, h2⟩ := foldl_min xs (if x < a then x else a)
    refine ⟨?_, fun y hy => ?_⟩
    · show List.foldl _ (if x < a then x else a) xs ∈ _
      rcases List.mem_cons.mp h1 with e | e
      · rw [e]
        split <;> simp
      · simp [e]
    · show List.foldl _ (if x < a then x else a) xs ≤ y
      have h3 := h2 (if x < a then x else a) List.mem_cons_self
      rcases List.mem_cons.mp hy with rfl | hy
      · split at h3 <;> rename_i q
        · rw [if_pos q]; omega
        · rw [if_neg q]; omega
      · rcases List.mem_cons.mp hy with rfl | hy
        · split at h3 <;> rename_i q
          · rw [if_pos q]; omega
          · rw [if_neg q]; omega
        · exact h2 y (List.mem_cons_of_mem _ hy)
theorem maxI_uniq {ns : List Int} {k n : Int} (e : maxI ns = some k) (h1 : n ∈ ns) (h2 : ∀ y ∈ ns, y ≤ n) : n = k := by
  cases ns with
  | nil => cases h1
  | cons x xs =>
    cases e
    obtain ⟨g1, g2⟩ := foldl_max xs x
    have := h2 _ g1
    have := g2 _ h1
    omega
theorem minI_uniq {ns : List Int} {k n : Int} (e : minI ns = some k) (h1 : n ∈ ns) (h2 : ∀ y ∈ ns, n ≤ y) : n = k := by
  cases ns with
  | nil => cases h1
  | cons x xs =>
    cases e
    obtain ⟨g1, g2⟩ := foldl_min xs x
    have := h2 _ g1
    have := g2 _ h1
    omega
theorem maxI_ne {ns : List Int} {k : Int} (e : maxI ns = some k) : 0 < ns.length := by
  cases ns with
  | nil => cases e
  | cons _ _ => simp
theorem minI_ne {ns : List Int} {k : Int} (e : minI ns = some k) : 0 < ns.length := by
  cases ns with
  | nil => cases e
  | cons _ _ => simp
theorem insI_perm (x : Int) : ∀ xs : List Int, (insI x xs).Perm (x :: xs)
  | [] => List.Perm.refl _
  | y :: ys => by
    unfold insI
    split
    · exact List.Perm.refl _
    · exact ((insI_perm x ys).cons y).trans (List.Perm.swap x y ys)
theorem insI_sorted {x : Int} : ∀ {xs : List Int}, xs.Pairwise (· ≤ ·) → (insI x xs).Pairwise (· ≤ ·)
  | [], _ => by simp [insI]
  | y :: ys, h => by
    unfold insI
    obtain ⟨h1, h2⟩ := List.pairwise_cons.mp h
    split
    · rename_i q
      refine List.pairwise_cons.mpr ⟨fun z hz => ?_, h⟩
      rcases List.mem_cons.mp hz with rfl | hz
      · exact q
      · have := h1 z hz
        omega
    · rename_i q
      refine List.pairwise_cons.mpr ⟨fun z hz => ?_, insI_sorted h2⟩
      rcases List.mem_cons.mp ((insI_perm x ys).mem_iff.mp hz) with rfl | hz
      · omega
      · exact h1 z hz
theorem sortI_perm : ∀ xs : List Int, (sortI xs).Perm xs
  | [] => List.Perm.refl _
  | x :: xs => (insI_perm x _).trans ((sortI_perm xs).cons x)
theorem sortI_sorted : ∀ xs : List Int, (sortI xs).Pairwise (· ≤ ·)
  | [] => List.Pairwise.nil
  | _ :: xs => insI_sorted (sortI_sorted xs)
theorem sorted_uniq : ∀ {xs ys : List Int}, xs.Perm ys → xs.Pairwise (· ≤ ·) → ys.Pairwise (· ≤ ·) → xs = ys
  | [], ys, h, _, _ => by rw [List.nil_perm.mp h]
  | x :: xs, [], h, _, _ => absurd h.length_eq (by simp)
  | x :: xs, y :: ys, h, h1, h2 => by
    obtain ⟨a1, b1⟩ := List.pairwise_cons.mp h1
    obtain ⟨a2, b2⟩ := List.pairwise_cons.mp h2
    have e : x = y := by
      have m1 : x ∈ y :: ys := h.mem_iff.mp List.mem_cons_self
      have m2 : y ∈ x :: xs := h.mem_iff.mpr List.mem_cons_self
      have l1 : y ≤ x := by
        rcases List.mem_cons.mp m1 with e | e
        · omega
        · exact a2 x e
      have l2 : x ≤ y := by
        rcases List.mem_cons.mp m2 with e | e
        · omega
        · exact a1 y e
      omega
    subst e
    rw [sorted_uniq (List.perm_cons x |>.mp h) b1 b2]
end
end Tw
set_option Elab.async false
set_option linter.all false
set_option autoImplicit false
set_option maxRecDepth 100000
namespace Tw
open PySem PySem.Spec PyProof.Rows L2
open PySem.W (EachIs AllAlike Sortable alike dataLe)
theorem each_of {α β γ : Type} {R : α → β → Prop} {P : α → γ → Prop} : ∀ {us : List α} {xs : List β} {ds : List γ}, Paired (fun x u => R u x) xs us → EachIs P us ds → EachIs (fun u (b : β × γ) => R u b.1 ∧ P u b.2) us (xs.zip ds)
  | _, _, _, .nil, .nil => .nil
  | _, _, _, .cons r t, .cons p q => .cons ⟨r, p⟩ (each_of t q)
theorem reads_each {X : Cx} {pins : List (PySem.Addr × Obj)} {σ : L2.St} {H : Hp} {s : Shared} (I : Inv X pins σ H s) : ∀ {ds : List PyData} {vs : List V} {us : List Value}, DpAll X.K H vs ds → Vals vs us → EachIs (fun u d => ∃ as, Reads s.heap u d as) us ds
  | [], _, _, .nil, .nil => .nil
  | d :: ds, _, _, .cons h1 h2, .cons r1 r2 => .cons (Dp.reads I d _ _ h1 r1) (reads_each I h2 r2)
theorem each_vals {γ : Type} : ∀ {us : List Value} {bs : List (V × γ)}, EachIs (fun u b => RelV b.1 u) us bs → Vals (bs.map Prod.fst) us
  | _, _, .nil => .nil
  | _, _, .cons r t => .cons r (each_vals t)
theorem alike_of {ds : List PyData} (h : (ds.all fun d => ds.all fun e => alike d e) = true) : AllAlike ds := fun d hd e he => List.all_eq_true.mp (List.all_eq_true.mp h d hd) e he
theorem sortable_of {ds : List PyData} (h : (ds.all isTup1 || ds.all isOth) = true) : Sortable ds := by
  rcases Bool.or_eq_true_iff.mp h with h | h
  · refine .inl fun d hd => ?_
    have := List.all_eq_true.mp h d hd
    unfold isTup1 at this
    split at this
    · exact ⟨_, _, rfl⟩
    · cases this
  · refine .inr fun d hd => ?_
    have := List.all_eq_true.mp h d hd
    unfold isOth at this
    split at this
    · cases this
    · cases this
    · rename_i n1 n2
      exact ⟨fun e => n1 e, fun xs e => n2 xs e⟩
section
variable {X : Cx}
def rSortedDt (K : PySem.W.Frag) : List V → Hp → VK → Prop := fun vs H Q => ∃ (a : Ad) (xs : List V) (ds : List PyData), vs = [V.ref a] ∧ SqL K H a xs ∧ DpAll K H xs ds ∧ xs.length = ds.length ∧ okSort ds = true ∧ PyData.depthAll ds ≤ 40 ∧
  ∀ p : Ad, H p = none → Q (.ref p) (upd H p (.lst (((xs.zip ds).mergeSort (dataLe false Prod.snd)).map Prod.fst)))
theorem depth_mem : ∀ {ds : List PyData} {d : PyData} {n : Nat}, PyData.depthAll ds ≤ n → d ∈ ds → d.depth ≤ n
  | [], _, _, _, h => by cases h
  | e :: ds, d, n, hn, h => by
    simp only [PyData.depthAll] at hn
    rcases List.mem_cons.mp h with rfl | h
    · omega
    · exact depth_mem (by omega) h
theorem cr_sortedDt (hu : X.A.units + 100 < cLine) : CallR X (.builtin "sorted") (rSortedDt X.K) := by
  intro pins s σ H vs us Q I r h
  obtain ⟨a, xs, ds, rfl, hs, hd, hlen, ho, hdep, q⟩ := h
  obtain ⟨its, rv, hl, hz⟩ := I.list hs
  rw [Vals.ref1 r]
  have fin : ∀ out : List Value, out.length = its.length → Vals (((xs.zip ds).mergeSort (dataLe false Prod.snd)).map Prod.fst) out → EP X pins σ Q (.ref (s.heap.objs.size + 1)) { s with heap := sortedAll s.heap its out.toArray } := fun out h1 h2 => by
    obtain ⟨ep, he'⟩ := PyProof.Rows.sortedAll_at s.heap its out.toArray
    have hz' : (((xs.zip ds).mergeSort (dataLe false Prod.snd)).map Prod.fst).length ≤ sizeLine := by
      rw [h2.length, h1, ← rv.length]
      exact hz
    exact ⟨.ref _, upd H (s.heap.objs.size + 1) (.lst (((xs.zip ds).mergeSort (dataLe false Prod.snd)).map Prod.fst)), I.laid (t' := s.toks) (fun _ _ => PyProof.Rows.sortedAll_old) (Nat.le_succ _) ⟨hz', out, ep, h2, he'⟩, rfl, q _ (I.hok.fresh (Nat.le_succ _))⟩
  unfold okSort at ho
  by_cases h2 : ds.length ≤ 1
  · refine SrtO.sorted_ord SrtO.swo_int hl.isList (by rw [← rv.length]; exact hz) (fun h3 => absurd h3 (by rw [← rv.length, hlen]; omega)) fun out k1 k2 => ?_
    have hl2 := k2.len
    have e : out = its := by
      have p := k2.perm
      match its, out, p with
      | [], out, p => exact List.perm_nil.mp p
      | [u], out, p => exact List.perm_singleton.mp p
      | u :: u2 :: r, _, _ =>
        have := rv.length
        simp at this
        omega
    refine fin out hl2 ?_
    rw [e]
    have : (xs.zip ds).mergeSort (dataLe false Prod.snd) = xs.zip ds := by
      match xs, ds, hlen, h2 with
      | [], [], _, _ => simp
      | [x], [d], _, _ => simp
      | _ :: _ :: _, _, hlen, h2 => simp at hlen; omega
    rw [this, List.map_fst_zip (by omega)]
    exact rv
  · have ho : ((ds.all fun d => ds.all fun e => alike d e) && (ds.all isTup1 || ds.all isOth)) = true := by
      rcases Bool.or_eq_true_iff.mp ho with h | h
      · exact absurd (of_decide_eq_true h) h2
      · exact h
    rw [Bool.and_eq_true] at ho
    have em : (xs.zip ds).map Prod.snd = ds := List.map_snd_zip (by omega)
    have er := reads_each I hd rv
    have ee := each_of (R := fun u x => RelV x u) rv er
    refine PySem.W.sorted_data (bs := xs.zip ds) (enc := Prod.snd) (R := fun u b => RelV b.1 u ∧ ∃ as, Reads s.heap u b.2 as) hl.isList ee (ee.mono fun _ _ h => h.2) (by rw [em]; exact alike_of ho.1) (by rw [em]; exact sortable_of ho.2) ?_ ?_ fun out h1 h3 => fin out ?_ (each_vals (h3.mono fun _ _ h => h.1))
    · rw [List.length_zip]
      omega
    · intro b hb
      have := depth_mem hdep (List.of_mem_zip hb).2
      omega
    · rw [h1, List.length_zip, ← rv.length]
      omega
end
section
variable {prog : Program} {w : World} {A : Around} {E : Value → Shared → Prop} {s : Shared}
theorem collect_tup {l : Addr} {vs : List Value} {Q : List Value → Shared → Prop} (hl : IsTup s.heap l vs.toArray)
    (h : Q vs { s with heap := (s.heap.push (seqObj "list" #[] 0)).update s.heap.objs.size (Obj.mapSeq (· ++ vs.toArray)) }) (hsz : vs.length ≤ sizeLine) :
    wpAny (model prog w) A (collect (.ref l)) Q E s := by
  obtain ⟨o, ho, hc, n, hd⟩ := id hl
  unfold collect
  refine wpAny_bind (wpAny_runValue (codeAny_builtin entry_proto_collect' ?_))
  show wpAny _ _ (do again (.builtin "list.__iadd__" ⟨[← newList [], .ref l], []⟩)) _ _ s
  refine wpAny_bind (wpAny_newList (wpAny_pure ⟨Code.quiet_builtin _ (by decide +kernel), codeAny_builtin entry_list_iadd' ?_⟩))
  show wpAny _ _ (Builtin.List.listExtendWith (.ref s.heap.objs.size) (.ref l) (.ref s.heap.objs.size)) _ _ { s with heap := s.heap.push (seqObj "list" #[] 0) }
  unfold Builtin.List.listExtendWith
  have ho' : (s.heap.push (seqObj "list" #[] 0)).get? l = some o := Heap.get?_push_of_some _ ho
  refine wpAny_bind (wpAny_typeOf (T := "tuple") ⟨o, ho', hc⟩ ?_)
  have ht : (Value.type "tuple" == Value.type "tuple") = true := by rfl
  rw [if_pos (by rw [ht]; simp)]
  refine wpAny_bind (listItems_at ho' hd ?_)
  refine wpAny_bind (listItems_at (xs := #[]) (n := 0) (Heap.get?_push_size _ rfl) rfl ?_)
  rw [if_neg (by simp)]
  refine wpAny_bind (listUpdate_at (xs := #[]) (n := 0) (Heap.get?_push_size _ rfl) rfl ?_ (Nat.zero_le _) (by show (#[] ++ vs.toArray).size ≤ sizeLine + 1; simp only [Array.size_append, List.size_toArray, List.length_nil]; omega))
  refine wpAny_pure ?_
  show wpAny (model prog w) A (do
      let o ← load s.heap.objs.size
      match o.data with
      | .seq xs _ => pure xs.toList
      | _ => unsupported "internal:collect") Q E { s with heap := (s.heap.push (seqObj "list" #[] 0)).update s.heap.objs.size (Obj.mapSeq (· ++ vs.toArray)) }
  refine wpAny_bind (wpAny_load (get?_update_seq (Heap.get?_push_size _ rfl) _) ?_)
  show wpAny _ _ (pure ((#[] : Array Value) ++ vs.toArray).toList) Q E _
  rw [show ((#[] : Array Value) ++ vs.toArray).toList = vs by simp]
  exact wpAny_pure h
theorem sorted_ordT {l : Addr} {vs : List Value} {ltv : Value → Value → Bool} {Q : Value → Shared → Prop} (O : SrtO.Swo ltv) (hl : IsTup s.heap l vs.toArray) (hz : vs.length ≤ sizeLine)
    (hS : 2 ≤ vs.length → ∀ (h₁ : Heap) (a : Addr), h₁.get? a = some (seqObj "list" vs.toArray 0) → (∀ b o, s.heap.get? b = some o → b ≠ a ∧ h₁.get? b = some o) → SrtO.SortableO prog w A.in1.in1 { s with heap := h₁ } a vs ltv)
    (h : ∀ out : List Value, SrtO.Srtd ltv out → SrtO.Stb ltv out vs → Q (.ref (s.heap.objs.size + 1)) { s with heap := sortedAll s.heap vs out.toArray }) :
    wpAny (model prog w) A (call (.builtin "sorted") [.ref l]) Q E s := by
  refine Calls.call_function_entry kind_sorted plain_sorted entry_sorted (args_sorted1 _) ?_
  unfold Builtin.«sorted»
  refine wpAny_bind (m := checkCount "sorted" 1 1 _) (wpAny_pure ?_)
  refine wpAny_bind (collect_tup hl ?_ hz)
  refine wpAny_bind (wpAny_newList ?_ hz)
  have hsz : ((s.heap.push (seqObj "list" #[] 0)).update s.heap.objs.size (Obj.mapSeq (· ++ vs.toArray))).objs.size = s.heap.objs.size + 1 := by
    rw [Heap.size_update, size_push']
  have hoL : (((s.heap.push (seqObj "list" #[] 0)).update s.heap.objs.size (Obj.mapSeq (· ++ vs.toArray))).push (seqObj "list" vs.toArray 0)).get? (s.heap.objs.size + 1) = some (seqObj "list" vs.toArray 0) := by
    rw [← hsz]; exact Heap.get?_push_size _ rfl
  have keep : ∀ b o, s.heap.get? b = some o → b ≠ s.heap.objs.size + 1 ∧ (((s.heap.push (seqObj "list" #[] 0)).update s.heap.objs.size (Obj.mapSeq (· ++ vs.toArray))).push (seqObj "list" vs.toArray 0)).get? b = some o := fun b o q => by
    have hlt : b < s.heap.objs.size := Heap.lt_size q
    refine ⟨Nat.ne_of_lt (Nat.lt_succ_of_lt hlt), Heap.get?_push_of_some _ ?_⟩
    rw [Heap.get?_update_ne _ _ _ _ (Nat.ne_of_lt hlt)]
    exact Heap.get?_push_of_some _ q
  show wpAny _ _ _ _ _ { s with heap := ((s.heap.push (seqObj "list" #[] 0)).update s.heap.objs.size (Obj.mapSeq (· ++ vs.toArray))).push (seqObj "list" vs.toArray 0) }
  rw [hsz]
  refine wpAny_bind (wpAny_holding (wpAny_call_entry slot_list_sort ⟨_, hoL, rfl⟩ entry_list_sort (SrtO.list_sort_ord O hoL hz (fun h2 => hS h2 _ _ hoL keep) fun out hs hb => ⟨_, rfl, ?_⟩) (args_list_sort _)))
  exact wpAny_pure ⟨_, rfl, h out hs hb⟩
end
section
variable {X : Cx}
def rSortedT (K : PySem.W.Frag) : List V → Hp → VK → Prop := fun vs H Q => ∃ (a : Ad) (ns : List Int), vs = [V.ref a] ∧ SqT K H a (ns.map V.int) ∧
  ∀ (ns' : List Int) (p : Ad), ns'.Perm ns → ns'.Pairwise (· ≤ ·) → H p = none → Q (.ref p) (upd H p (.lst (ns'.map V.int)))
theorem cr_sortedT : CallR X (.builtin "sorted") (rSortedT X.K) := by
  intro pins s σ H vs us Q I r h
  obtain ⟨a, ns, rfl, hs, q⟩ := h
  obtain ⟨its, rv, hl, hz⟩ := I.tuple hs
  rw [Vals.ref1 r]
  have hi := rv.ints
  refine sorted_ordT SrtO.swo_int hl (by rw [← rv.length]; exact hz) (fun h2 h₁ a' _ _ => SrtO.ints_sortable hi h2) fun out h1 h2 => ?_
  obtain ⟨k1, k2, k3⟩ := SrtO.ints_out hi h1 h2
  obtain ⟨ep, he'⟩ := PyProof.Rows.sortedAll_at s.heap its out.toArray
  have hlen : ((out.map SrtO.iv).map V.int).length ≤ sizeLine := by
    rw [List.length_map, k2.length_eq]
    rw [List.length_map] at hz
    exact hz
  exact ⟨.ref _, upd H (s.heap.objs.size + 1) (.lst ((out.map SrtO.iv).map V.int)), I.laid (t' := s.toks) (fun _ _ => PyProof.Rows.sortedAll_old) (Nat.le_succ _) ⟨hlen, out, ep, vals_of_ints k1, he'⟩, rfl, q _ _ k2 k3 (I.hok.fresh (Nat.le_succ _))⟩
end
section
variable {X : Cx}
def rSumT (K : PySem.W.Frag) : List V → Hp → VK → Prop := fun vs H Q => ∃ (a : Ad) (ns : List Int), vs = [V.ref a] ∧ SqT K H a (ns.map V.int) ∧ Q (.int ns.sum) H
theorem cr_sumT (hc : X.calm = true) : CallR X (.builtin "sum") (rSumT X.K) := by
  intro pins s σ H vs us Q I r h
  obtain ⟨a, ns, rfl, hs, q⟩ := h
  obtain ⟨its, rv, hl, hz⟩ := I.tuple hs
  rw [Vals.ref1 r]
  have hi := rv.ints
  obtain ⟨xs, e⟩ := hi.allInts.items
  have hn : numsOf (intItems xs).toList = ns := by rw [← e]; exact hi.numsOf
  rw [nums_intItems] at hn
  rw [e] at hl
  refine PySem.W.ktm_sumG (I.ok.hd hc) hl fun h' tk t' hk => ?_
  have : PySem.preSum (PySem.numAt xs) xs.size = ns.sum := by
    rw [preSum_eq, List.take_of_length_le (by simp), hn]
  rw [this]
  exact ⟨.int _, H, I.kept hk, ⟨_, rfl⟩, q⟩
def rMaxT (K : PySem.W.Frag) : List V → Hp → VK → Prop := fun vs H Q => ∃ (a : Ad) (x : Int) (ns : List Int), vs = [V.ref a] ∧ SqT K H a ((x :: ns).map V.int) ∧ Q (.int (ns.foldl (fun a b => if b > a then b else a) x)) H
def rMinT (K : PySem.W.Frag) : List V → Hp → VK → Prop := fun vs H Q => ∃ (a : Ad) (x : Int) (ns : List Int), vs = [V.ref a] ∧ SqT K H a ((x :: ns).map V.int) ∧ Q (.int (ns.foldl (fun a b => if b < a then b else a) x)) H
theorem maxOf_int (x : Int) (ns : List Int) : PySem.W.maxOf x ns = ns.foldl (fun a b => if b > a then b else a) x := by
  unfold PySem.W.maxOf
  congr 1
  funext a b
  show (if decide (a < b) = true then b else a) = _
  by_cases h : a < b
  · rw [if_pos (decide_eq_true h), if_pos h]
  · rw [if_neg (by simpa using h), if_neg h]
theorem minOf_int (x : Int) (ns : List Int) : PySem.W.minOf x ns = ns.foldl (fun a b => if b < a then b else a) x := by
  unfold PySem.W.minOf
  congr 1
  funext a b
  show (if decide (b < a) = true then b else a) = _
  by_cases h : b < a
  · rw [if_pos (decide_eq_true h), if_pos h]
  · rw [if_neg (by simpa using h), if_neg h]
theorem cr_maxT (hc : X.calm = true) (hu : X.A.units + 100 < cLine) : CallR X (.builtin "max") (rMaxT X.K) := by
  intro pins s σ H vs us Q I r h
  obtain ⟨a, x, ns, rfl, hs, q⟩ := h
  obtain ⟨its, rv, hl, hz⟩ := I.tuple hs
  rw [Vals.ref1 r]
  have hi := rv.ints
  refine PySem.W.max_tuple_datum (I.ok.hd hc) hl (PySem.W.HoldAll.of_ints (by simpa using hi)) (by show X.A.units + 1 + 0 < cLine; omega) fun i v h' tk _ hv hk => ?_
  obtain ⟨t, rfl⟩ := PySem.W.int_of_holds hv
  exact ⟨.int _, H, I.kept hk, ⟨_, rfl⟩, by rw [maxOf_int]; exact q⟩
theorem cr_minT (hc : X.calm = true) (hu : X.A.units + 100 < cLine) : CallR X (.builtin "min") (rMinT X.K) := by
  intro pins s σ H vs us Q I r h
  obtain ⟨a, x, ns, rfl, hs, q⟩ := h
  obtain ⟨its, rv, hl, hz⟩ := I.tuple hs
  rw [Vals.ref1 r]
  have hi := rv.ints
  refine PySem.W.min_tuple_datum (I.ok.hd hc) hl (PySem.W.HoldAll.of_ints (by simpa using hi)) (by show X.A.units + 1 + 0 < cLine; omega) fun i v h' tk _ hv hk => ?_
  obtain ⟨t, rfl⟩ := PySem.W.int_of_holds hv
  exact ⟨.int _, H, I.kept hk, ⟨_, rfl⟩, by rw [minOf_int]; exact q⟩
end
end Tw
set_option Elab.async false
set_option linter.all false
set_option autoImplicit false
set_option maxRecDepth 100000
namespace Tw
open PySem PySem.Spec PyProof.Rows L2
open PySem.W (EachIs AllAlike Sortable alike dataLe KdlSrc)
section
variable {prog : Program} {w : World} {A : Around} {E : Value → Shared → Prop} {s : Shared} {T : String} {r d : Addr} {n : Nat} {P : Nat → Value → Prop} {OK : Heap → Prop}
theorem collect_src {Q : List Value → Shared → Prop} (K : KdlSrc prog w T r d n P OK) (hh : A.handled = none) (hok : OK s.heap) (hn : n ≤ sizeLine)
    (h : ∀ h' tk (acc : Array Value), (∀ b o, s.heap.get? b = some o → h'.get? b = some o) → s.heap.objs.size ≤ h'.objs.size → ItemsOf P acc n → Q acc.toList { s with heap := h', toks := tk }) :
    wpAny (model prog w) A (collect (.ref r)) Q E s := by
  have hlt := K.there _ hok
  unfold collect
  refine wpAny_bind (wpAny_runValue (codeAny_builtin entry_proto_collect' ?_))
  show wpAny _ _ (do again (.builtin "list.__iadd__" ⟨[← newList [], .ref r], []⟩)) _ _ s
  refine wpAny_bind (wpAny_newList (wpAny_pure ⟨Code.quiet_builtin _ (by decide +kernel), codeAny_builtin entry_list_iadd' ?_⟩))
  show wpAny _ _ (Builtin.List.listExtendWith (.ref s.heap.objs.size) (.ref r) (.ref s.heap.objs.size)) _ _ { s with heap := s.heap.push (seqObj "list" #[] 0) }
  refine PySem.W.kdl_extend (A := A) (R := fun r s' => match r with
    | .ok (.ret v) => wpAny (model prog w) A (match v with
      | .ref a => do
        let o ← load a
        match o.data with
        | .seq xs _ => pure xs.toList
        | _ => unsupported "internal:collect"
      | _ => unsupported "internal:collect") Q E s'
    | .ok _ => False
    | .error e => E e s') (s := { s with heap := s.heap.push (seqObj "list" #[] 0) }) K hh (K.keep _ _ hok fun b _ o e => Heap.get?_push_of_some _ e) s.heap.objs.size (Nat.ne_of_gt hlt.1) (Nat.ne_of_gt hlt.2) _ 0 (Heap.get?_push_size _ rfl) (fun h' tk acc' c' hk hS' hacc => ?_) hn
  show wpAny (model prog w) A (do
      let o ← load s.heap.objs.size
      match o.data with
      | .seq xs _ => pure xs.toList
      | _ => unsupported "internal:collect") Q E { s with heap := h', toks := tk }
  refine wpAny_bind (wpAny_load hS' ?_)
  exact wpAny_pure (h h' tk acc' (fun b o e => hk b o (Nat.ne_of_lt (Heap.lt_size e)) (Heap.get?_push_of_some _ e)) (Nat.le_of_lt (Heap.lt_size hS')) hacc)
theorem sorted_of_collect {v : Value} {kw : List (Str × Value)} {Q : Value → Shared → Prop} (ha1 : argsOk "sorted" ⟨[v], kw⟩)
    (hc : ∀ E' : Value → Shared → Prop, wpAny (model prog w) A.in1 (collect v) (fun vs s1 => vs.length ≤ sizeLine ∧ ∀ E'' : Value → Shared → Prop, wpAny (model prog w) A.in1 (call (.builtin "list.sort") [.ref s1.heap.objs.size] kw) (fun f s' => Q (.ref s1.heap.objs.size) s') E'' { s1 with heap := s1.heap.push (seqObj "list" vs.toArray 0) }) E' s) :
    wpAny (model prog w) A (call (.builtin "sorted") [v] kw) Q E s := by
  refine call_function_entry_kw kind_sorted plain_sorted entry_sorted ha1 ?_
  unfold Builtin.«sorted»
  refine wpAny_bind (m := checkCount "sorted" 1 1 _) (wpAny_pure ?_)
  refine wpAny_bind (wpAny_mono (hc _) (fun vs s1 ⟨hz, hs⟩ => ?_) fun _ _ e => e)
  refine wpAny_bind (wpAny_newList ?_ hz)
  refine wpAny_bind (wpAny_holding (wpAny_mono (hs _) (fun f s' hq => ?_) fun _ _ e => e))
  exact wpAny_pure ⟨_, rfl, hq⟩
end
inductive KeyL (K : PySem.W.Frag) (H : Hp) : List V → List (List Int) → Prop
  | nil : KeyL K H [] []
  | cons {t : Ad} {ns : List Int} {ys : List V} {ks : List (List Int)} (h : SqT K H t (ns.map V.int)) (r : KeyL K H ys ks) : KeyL K H (.ref t :: ys) (ns :: ks)
theorem KeyL.length {K : PySem.W.Frag} {H : Hp} : ∀ {ys : List V} {ks : List (List Int)}, KeyL K H ys ks → ys.length = ks.length
  | _, _, .nil => rfl
  | _, _, .cons _ r => by rw [List.length_cons, List.length_cons, r.length]
theorem dataLe_tups {β : Type} (x : β → List Int) : dataLe false (fun b => .tuple ((x b).map .int)) = fun p q => decide (x p ≤ x q) := by
  rw [← PySem.W.dataLe_rows]
  funext p q
  show (!PySem.W.dataLt _ _) = !PySem.W.dataLt _ _
  rw [PySem.W.dataLt_tuple, PySem.W.dataLt_list]
theorem readsAll_ints {h : Heap} : ∀ {its : List Value} {ns : List Int}, IntsAre its ns → ReadsAll h its (ns.map .int) []
  | _, _, .nil => .nil
  | _, _, .cons n t r => by
    have := ReadsAll.cons (h := h) (.int n t) (readsAll_ints r)
    exact this
section
variable {X : Cx} {pins : List (Addr × Obj)} {σ : L2.St} {H : Hp} {s : Shared}
theorem keyL_each (I : Inv X pins σ H s) : ∀ {ys : List V} {ks : List (List Int)} {us : List Value}, KeyL X.K H ys ks → Vals ys us → EachIs (fun u (b : V × List Int) => RelV b.1 u ∧ Reads s.heap u (.tuple (b.2.map .int)) []) us (ys.zip ks)
  | _, _, _, .nil, .nil => .nil
  | _, _, _, .cons (t := t) h r, .cons r1 r2 => by
    obtain ⟨its, rv, ⟨o, ho, hc, n, hd⟩, hz⟩ := I.tuple h
    obtain rfl := r1
    exact .cons ⟨rfl, .tuple ho hc hd (readsAll_ints rv.ints)⟩ (keyL_each I r r2)
def rSortDN (K : PySem.W.Frag) : List V → Hp → VK → Prop := fun vs H Q => ∃ (a : Ad) (ps : Prs) (ks : List (List Int)), vs = [.ref a] ∧ H a = some (dicO a ps) ∧ KeyL K H (ps.map fun x => V.ref x.2.1) ks ∧ (∀ ns ∈ ks, ns ≠ []) ∧
  ∀ p, H p = none → Q (.ref p) (upd H p (.lst ((((ps.map fun x => V.ref x.2.1).zip ks).mergeSort fun a b => decide (a.2 ≤ b.2)).map Prod.fst)))
theorem keys_of (I : Inv X pins σ H s) {a : Ad} {ps : Prs} (e : H a = some (dicO a ps)) : ∃ (o : Obj) (es : Array DictEntry) (ep : Nat), (a == sysModules) = false ∧ o.ExactDict ∧ o.data = .dict es ep ∧ s.heap.get? a = some o ∧ es.size ≤ sizeLine ∧
    ∀ acc : Array Value, ItemsOf (fun i v => ∃ en : DictEntry, es[i]? = some en ∧ v = en.key) acc es.size → Vals (ps.map fun x => V.ref x.2.1) acc.toList := by
  obtain ⟨⟨z, hs, ys, pr, o, es, ep, ho, hx, hdt, he, hn⟩, _⟩ := (show ObjOk X.prog X.w H s.heap a (dicO a ps) from I.hok a _ e)
  obtain ⟨l1, en⟩ := entries_of pr he
  refine ⟨o, es, ep, hs, hx, hdt, ho, by omega, fun acc' it => ?_⟩
  have ea : acc'.toList = (ps.map fun x => x.2.1).map Value.ref := by
    have hl : acc'.toList.length = ps.length := by rw [Array.length_toList, it.1]; exact l1
    apply List.ext_getElem?
    intro j
    rw [List.getElem?_map, List.getElem?_map]
    cases hj : acc'.toList[j]? with
    | none =>
      have h1 := List.getElem?_eq_none_iff.mp hj
      rw [List.getElem?_eq_none (by omega)]
      rfl
    | some v =>
      obtain ⟨en', hen, hv⟩ := it.2 j v (by rw [← Array.getElem?_toList]; exact hj)
      have hlt : j < ps.length := by
        have := (List.getElem?_eq_some_iff.mp hj).1
        omega
      obtain ⟨en2, h2, h3, _⟩ := en j ps[j] (List.getElem?_eq_getElem hlt)
      rw [hen] at h2
      cases h2
      rw [List.getElem?_eq_getElem hlt, hv, h3]
      rfl
  rw [ea]
  have := vals_refs (ps.map fun x => x.2.1)
  rw [List.map_map] at this
  exact this
end
section
variable {X : Cx}
theorem cr_sortedDN (hu : X.A.units + 100 < cLine) (hc : X.calm = true) : CallR X (.builtin "sorted") (rSortDN X.K) := by
  intro pins s σ H vs us Q I r h
  obtain ⟨a, ps, ks, rfl, e, hk, hne, q⟩ := h
  obtain ⟨u, rfl, rx⟩ := vals1 r
  cases rx
  obtain ⟨o, es, ep, hs, hx, hdt, ho, hz, hv⟩ := keys_of I e
  have hh : X.A.handled = none := I.ok.hd hc
  refine sorted_of_collect (args_sorted1 _) fun E' => collect_src (kdl_raw hs hx hdt) hh ho hz fun h' tk acc kp hsz it => ⟨?_, fun E'' => ?_⟩
  · rw [Array.length_toList, it.1]
    exact hz
  · have rv := hv acc it
    have I1 : Inv X pins σ H { s with heap := h'.push (seqObj "list" acc.toList.toArray 0), toks := tk } := I.kept fun b ob q => Heap.get?_push_of_some _ (kp b ob q)
    have ee := keyL_each I1 hk rv
    have hlen := hk.length
    refine PySem.W.list_sort_data (bs := (ps.map fun x => V.ref x.2.1).zip ks) (enc := fun b => .tuple (b.2.map .int)) (R := fun u (b : V × List Int) => RelV b.1 u) (Heap.get?_push_size _ rfl) (ee.mono fun _ _ h => h.1) (ee.mono fun _ _ h => ⟨[], h.2, by simp⟩)
      (AllAlike.of fun b b' => by
        show PySem.W.alike (.tuple _) (.tuple _) = true
        simp only [PySem.W.alike]
        exact PySem.W.alike_ints _ _)
      (.inl fun d hd => ?_) ?_ (fun b _ => ?_) fun out hl eo => ?_
    · obtain ⟨b, hb, rfl⟩ := List.mem_map.mp hd
      have := hne b.2 (List.of_mem_zip hb).2
      cases hb2 : b.2 with
      | nil => exact absurd hb2 this
      | cons x r => exact ⟨.int x, r.map .int, by rw [List.map_cons]⟩
    · rw [List.length_zip, rv.length, Array.length_toList, it.1]
      omega
    · have : (PyData.tuple (b.2.map .int)).depth ≤ 1 := by
        simp only [PyData.depth]
        rw [PySem.W.depth_ints]
        omega
      show X.A.in1.units + 1 + _ < cLine
      show X.A.units + 1 + 1 + _ < cLine
      omega
    · rw [dataLe_tups (fun b : V × List Int => b.2)] at eo
      have vs : Vals ((((ps.map fun x => V.ref x.2.1).zip ks).mergeSort fun a b => decide (a.2 ≤ b.2)).map Prod.fst) out := each_vals eo
      have hz' : ((((ps.map fun x => V.ref x.2.1).zip ks).mergeSort fun a b => decide (a.2 ≤ b.2)).map Prod.fst).length ≤ sizeLine := by
        rw [vs.length, hl, List.length_zip, rv.length, Array.length_toList, it.1]
        omega
      obtain ⟨ec, he'⟩ := PyProof.Rows.sortedHeap_at (vs := acc.toList) (out := out.toArray) (show (h'.push (seqObj "list" acc.toList.toArray 0)).get? h'.objs.size = some (seqObj "list" acc.toList.toArray 0) from Heap.get?_push_size _ rfl)
      exact ⟨.ref _, upd H h'.objs.size (.lst _), I.laid (t' := tk) (fun b ob hb => by
        have h1 := kp b ob hb
        have := Heap.lt_size h1
        rw [PyProof.Rows.sortedHeap_old (Nat.ne_of_lt this) (by rw [size_push']; exact Nat.lt_succ_of_lt this)]
        exact Heap.get?_push_of_some _ h1) hsz ⟨hz', out, ec, vs, he'⟩, rfl, q _ (I.hok.fresh hsz)⟩
end
end Tw
set_option Elab.async false
set_option linter.all false
set_option autoImplicit false
set_option maxRecDepth 100000
namespace Tw
open PySem PySem.Spec PyProof.Rows L2
theorem listText_len (ts : List Str) : (listText ts).length ≤ piled ts + 2 := by
  cases ts with
  | nil =>
    show (listText []).length ≤ _
    rw [listText_nil]
    decide
  | cons t ts =>
    have h : listText (t :: ts) = textFrom 1 (("[" : Str) ++ ("" : String) ++ t) ts ++ ("]" : Str) := rfl
    rw [h, strLen_append, textFrom_length_pos ts 1 _ (by decide), piled_cons, strLen_append, strLen_append]
    have e1 : (("[" : String) : Str).length = 1 := rfl
    have e2 : (("" : String) : Str).length = 0 := rfl
    have e3 : (("]" : String) : Str).length = 1 := rfl
    omega
theorem tupleText_len (ts : List Str) : (tupleText ts).length ≤ piled ts + 3 := by
  unfold tupleText
  rw [strLen_append, strLen_append]
  have e1 : (("(" : String) : Str).length = 1 := rfl
  have e2 : ((if (ts.length == 1) = true then ",)" else ")" : String) : Str).length ≤ 2 := by
    split <;> decide
  have e3 : (Str.join ", " ts).length ≤ piled ts := by
    cases ts with
    | nil => decide
    | cons t ts =>
      have := join_length_add (t :: ts) (by simp)
      omega
  omega
mutual
theorem shown_len : ∀ (d : PyData), d.canLay0 = true → wgt d ≤ 400000 → d.showable = true ∧ d.shown.length + 2 ≤ 40 * wgt d
  | .none, _, _ => ⟨rfl, by decide⟩
  | .bool b, _, _ => ⟨rfl, by cases b <;> decide⟩
  | .int i, _, h => by
    unfold wgt at h ⊢
    split at h
    · rename_i hi
      rw [if_pos hi]
      have h1 : i.natAbs.log2 < 1920 := by
        have : i.natAbs < 2 ^ 1920 := Nat.lt_of_lt_of_le hi (by decide +kernel)
        exact PySem.Flt.log2_lt_of (by decide) this
      refine ⟨by simp only [PyData.showable]; exact decide_eq_true h1, ?_⟩
      have h2 := int_text_length_le10 (k := 35) (by decide) hi
      have h3 : (PyData.int i).shown.length = (toString i).length := by
        simp only [PyData.shown]
        exact PySem.ofString_length _
      omega
    · omega
  | .str x, h, _ => by
    refine ⟨rfl, ?_⟩
    have h1 : PyData.strOk x = true := by simpa only [PyData.canLay0] using h
    have h2 : ∀ c ∈ x.cps.toList, c < 16 ^ 8 := fun c hc => by
      have := Array.all_eq_true_iff_forall_mem.mp h1 c (by simpa using hc)
      have := of_decide_eq_true this
      omega
    have h3 := StrLaws.reprText_len x h2
    simp only [PyData.shown, wgt]
    omega
  | .list xs, h, hw => by
    simp only [wgt] at hw ⊢
    obtain ⟨h1, h2⟩ := showns_len xs (by simpa only [PyData.canLay0] using h) (by omega)
    refine ⟨by simpa only [PyData.showable] using h1, ?_⟩
    have := listText_len (PyData.shownAll xs)
    simp only [PyData.shown]
    omega
  | .tuple xs, h, hw => by
    simp only [wgt] at hw ⊢
    obtain ⟨h1, h2⟩ := showns_len xs (by simpa only [PyData.canLay0] using h) (by omega)
    refine ⟨by simpa only [PyData.showable] using h1, ?_⟩
    have := tupleText_len (PyData.shownAll xs)
    simp only [PyData.shown]
    omega
  | .dict _, h, _ => by simp [PyData.canLay0] at h
theorem showns_len : ∀ (ds : List PyData), PyData.canLayAll0 ds = true → wgt.wgts ds ≤ 400000 → PyData.showableAll ds = true ∧ piled (PyData.shownAll ds) ≤ 40 * wgt.wgts ds
  | [], _, _ => ⟨rfl, by simp [PyData.shownAll, piled_nil]⟩
  | d :: ds, h, hw => by
    simp only [wgt.wgts] at hw ⊢
    have h' : d.canLay0 = true ∧ PyData.canLayAll0 ds = true := by simpa [PyData.canLayAll0] using h
    obtain ⟨a1, a2⟩ := shown_len d h'.1 (by omega)
    obtain ⟨b1, b2⟩ := showns_len ds h'.2 (by omega)
    refine ⟨by simp only [PyData.showableAll, a1, b1, Bool.and_self], ?_⟩
    simp only [PyData.shownAll, piled_cons]
    omega
end
section
variable {X : Cx}
def rRepr (K : PySem.W.Frag) : List V → Hp → VK → Prop := fun vs H Q => ∃ x d, vs = [x] ∧ Dp K H x d ∧ d.canLay0 = true ∧ d.depth ≤ 64 ∧ wgt d ≤ 400000 ∧ Q (.str d.shown) H
theorem call_reprD (hg : X.A.guards = some []) (hu : X.A.units + 66 < cLine) : CallR X (.builtin "repr") (rRepr X.K) := by
  intro pins s σ H xs us Q I r h
  obtain ⟨x, d, rfl, hd, hc, hp, hw, q⟩ := h
  obtain ⟨u, rfl, ru⟩ := vals1 r
  obtain ⟨hs, hl⟩ := shown_len d hc hw
  have hz : d.shown.length ≤ sizeLine := by rw [sizeLine_eq]; omega
  obtain ⟨as, rd⟩ := Dp.reads I d x u hd ru
  cases hd with
  | non =>
    cases ru
    exact PySem.P.repr_of_none ⟨.str _, H, I.tok _, ⟨_, rfl⟩, q⟩
  | bl b =>
    cases ru
    exact PySem.P.repr_of_bool ⟨.str _, H, I.tok _, ⟨_, rfl⟩, by simpa only [PyData.shown] using q⟩
  | int i =>
    obtain ⟨t, rfl⟩ := ru
    exact PySem.P.repr_of_int (of_decide_eq_true (by simpa only [PyData.showable] using hs)) ⟨.str _, H, I.tok _, ⟨_, rfl⟩, by simpa only [PyData.shown] using q⟩
  | str y =>
    obtain ⟨t, rfl⟩ := ru
    exact PySem.P.repr_of_str ⟨.str _, H, I.tok _, ⟨_, rfl⟩, by simpa only [PyData.shown] using q⟩ (by simpa only [PyData.shown] using hz)
  | lst h1 h2 =>
    cases ru
    refine repr_of_reads' rd hs (PyData.noDict_hsm (PyData.hasDict_of_canLay _ hc)) hg (by omega) (fun _ _ e => e) (fun h' u tk hk => ?_) hz
    exact ⟨.str _, H, I.kept hk, ⟨_, rfl⟩, q⟩
  | tup h1 h2 =>
    cases ru
    refine repr_of_reads' rd hs (PyData.noDict_hsm (PyData.hasDict_of_canLay _ hc)) hg (by omega) (fun _ _ e => e) (fun h' u tk hk => ?_) hz
    exact ⟨.str _, H, I.kept hk, ⟨_, rfl⟩, q⟩
theorem mapO_len {α β : Type} {f : α → Option β} : ∀ {xs : List α} {ys : List β}, mapO f xs = some ys → xs.length = ys.length
  | [], ys, h => by cases h; rfl
  | x :: xs, ys, h => by
    unfold mapO at h
    split at h
    · rename_i y ys' e1 e2
      cases h
      rw [List.length_cons, List.length_cons, mapO_len e2]
    · cases h
theorem Rs.of_map {K : PySem.W.Frag} {m : Mp} {H : Hp} {α : Type} {f : α → VV} {g : α → V} : ∀ {L : List α}, (∀ a ∈ L, R K m H (f a) (g a)) → Rs K m H (L.map f) (L.map g)
  | [], _ => .nil
  | a :: L, h => .cons (h a List.mem_cons_self) (Rs.of_map fun b hb => h b (List.mem_cons_of_mem _ hb))
theorem Rs.zipped {K : PySem.W.Frag} {m : Mp} {H : Hp} : ∀ {xs : List VV} {ys : List V} (ds : List PyData), Rs K m H xs ys → ∃ L : List (VV × V × PyData), (L.map fun p => (p.1, p.2.2)) = xs.zip ds ∧ (L.map fun p => p.2) = ys.zip ds ∧ ∀ p ∈ L, R K m H p.1 p.2.1
  | [], _, _, .nil => ⟨[], rfl, rfl, by simp⟩
  | x :: xs, _, [], .cons r t => ⟨[], rfl, rfl, by simp⟩
  | x :: xs, _, d :: ds, .cons (v := v) r t => by
    obtain ⟨L, e1, e2, h⟩ := Rs.zipped ds t
    refine ⟨(x, v, d) :: L, by rw [List.map_cons, e1]; rfl, by rw [List.map_cons, e2]; rfl, fun p hp => ?_⟩
    rcases List.mem_cons.mp hp with rfl | hp
    · exact r
    · exact h p hp
theorem Rs.sorted {K : PySem.W.Frag} {m : Mp} {H : Hp} {xs : List VV} {ys : List V} (ds : List PyData) (t : Rs K m H xs ys) : Rs K m H (sortDL xs ds) (((ys.zip ds).mergeSort (PySem.W.dataLe false Prod.snd)).map Prod.fst) := by
  obtain ⟨L, e1, e2, h⟩ := Rs.zipped ds t
  unfold sortDL
  rw [← e1, ← e2]
  have m1 := List.map_mergeSort (r := fun a b : VV × V × PyData => PySem.W.dataLe false (fun p : VV × V × PyData => p.2.2) a b) (s := PySem.W.dataLe false (Prod.snd : VV × PyData → PyData)) (f := fun p => (p.1, p.2.2)) (l := L) (fun a _ b _ => rfl)
  have m2 := List.map_mergeSort (r := fun a b : VV × V × PyData => PySem.W.dataLe false (fun p : VV × V × PyData => p.2.2) a b) (s := PySem.W.dataLe false (Prod.snd : V × PyData → PyData)) (f := fun p => p.2) (l := L) (fun a _ b _ => rfl)
  rw [← m1, ← m2, List.map_map, List.map_map]
  exact Rs.of_map fun a ha => h a (List.mem_mergeSort.mp ha)
theorem sd_sortD {K : PySem.W.Frag} {m0 : Bool} {m : Mp} {H : Hp} {S S' : Hs} {x z : VV} {v : V} {Q : VK} {xs : List VV} (h : SimH K m H S) (r : R K m H x v) (ex : lstOf S x = some xs) (e : (match mapO (toD dpt S) xs with
    | some ds => if okSort ds then mkL m0 (sortDL xs ds) S else .bad
    | none => .bad) = .ok z S') (p : Post K m H z S' Q) : rSortedDt K [v] H Q := by
  split at e
  · rename_i ds ed
    split at e
    · rename_i hk
      obtain ⟨a, ys, rfl, ha, t⟩ := lst_rd h r ex
      obtain ⟨g1, g2, g3⟩ := DpAll_of (toD_ok h _) t ed
      have hl := mapO_len ed
      refine ⟨a, ys, ds, rfl, SqL.of ha, g1, by rw [← t.length]; exact hl, hk, Nat.le_trans g3 (by decide), ?_⟩
      exact (post_mkL h (t.sorted ds) e p).2
    · cases e
  · cases e
section
variable {K : PySem.W.Frag} {m : Mp} {H : Hp}
theorem kF_rs : ∀ {ks : List VV} {kf : KF}, mapO kF1 ks = some kf → Rs K m H ks (kf.map k1V)
  | [], kf, h => by cases h; exact .nil
  | x :: ks, kf, h => by
    unfold mapO at h
    split at h
    · rename_i y ys h1 h2
      cases h
      refine .cons ?_ (kF_rs h2)
      cases x <;> cases h1
      · exact .non
      · exact .int _
    · cases h
def dkV : DK → V
  | .i n => .int n
  | .t _ b => .ref b
theorem Rp.rkeys : ∀ {kvs : List (VV × VV)} {xs : List (DK × V)}, Rp K m H kvs xs → Rs K m H (kvs.map (·.1)) (xs.map fun x => dkV x.1)
  | _, _, .nil => .nil
  | _, _, .int _ t => .cons (.int _) (Rp.rkeys t)
  | _, _, .tup k f _ t => .cons (.tup f (kF_rs k)) (Rp.rkeys t)
theorem Rs.zippedG {γ : Type} : ∀ {xs : List VV} {ys : List V} (ds : List γ), Rs K m H xs ys → ∃ L : List (VV × V × γ), (L.map fun p => (p.1, p.2.2)) = xs.zip ds ∧ (L.map fun p => p.2) = ys.zip ds ∧ ∀ p ∈ L, R K m H p.1 p.2.1
  | [], _, _, .nil => ⟨[], rfl, rfl, by simp⟩
  | x :: xs, _, [], .cons r t => ⟨[], rfl, rfl, by simp⟩
  | x :: xs, _, d :: ds, .cons (v := v) r t => by
    obtain ⟨L, e1, e2, h⟩ := Rs.zippedG ds t
    refine ⟨(x, v, d) :: L, by rw [List.map_cons, e1]; rfl, by rw [List.map_cons, e2]; rfl, fun p hp => ?_⟩
    rcases List.mem_cons.mp hp with rfl | hp
    · exact r
    · exact h p hp
theorem Rs.sortedG {γ : Type} {xs : List VV} {ys : List V} (le : γ → γ → Bool) (ds : List γ) (t : Rs K m H xs ys) : Rs K m H (((xs.zip ds).mergeSort fun a b => le a.2 b.2).map Prod.fst) (((ys.zip ds).mergeSort fun a b => le a.2 b.2).map Prod.fst) := by
  obtain ⟨L, e1, e2, h⟩ := Rs.zippedG ds t
  rw [← e1, ← e2]
  have m1 := List.map_mergeSort (r := fun a b : VV × V × γ => le a.2.2 b.2.2) (s := fun a b : VV × γ => le a.2 b.2) (f := fun p => (p.1, p.2.2)) (l := L) (fun a _ b _ => rfl)
  have m2 := List.map_mergeSort (r := fun a b : VV × V × γ => le a.2.2 b.2.2) (s := fun a b : V × γ => le a.2 b.2) (f := fun p => p.2) (l := L) (fun a _ b _ => rfl)
  rw [← m1, ← m2, List.map_map, List.map_map]
  exact Rs.of_map fun a ha => h a (List.mem_mergeSort.mp ha)
theorem Rs.keyL : ∀ {xs : List VV} {ys : List V} {ks : List (List Int)}, Rs K m H xs ys → mapO kInts xs = some ks → KeyL K H ys ks
  | [], _, _, .nil, h => by cases h; exact .nil
  | x :: xs, _, ks, .cons r t, h => by
    unfold mapO at h
    split at h
    · rename_i k ks' e1 e2
      cases h
      unfold kInts at e1
      split at e1
      · rename_i zs
        cases r with
        | tup f tt =>
          have := Rs.ints e1 tt
          subst this
          exact .cons f.sq (Rs.keyL t e2)
      · cases e1
    · cases h
theorem sd_sortX {m0 : Bool} {S S' : Hs} {x z : VV} {v : V} {Q : VK} (h : SimH K m H S) (r : R K m H x v) (e : sortDV m0 x S = .ok z S') (p : Post K m H z S' Q) : rSortedDt K [v] H Q ∨ rSortDN K [v] H Q := by
  unfold sortDV at e
  split at e
  · rename_i xs ex
    exact .inl (sd_sortD h r ex e p)
  · split at e
    · rename_i kvs e2
      obtain ⟨a, o, xs, rfl, h1, h2, h3⟩ := dct_rd h r e2
      rcases h2 with ⟨h2, _⟩ | ⟨_, ps, rfl, rfl⟩
      · cases h2
      · unfold sortK at e
        split at e
        · rename_i ks ek
          split at e
          · rename_i hne
            have t := h3.rkeys
            rw [List.map_map] at t
            refine .inr ⟨a, ps, ks, rfl, h1, t.keyL ek, fun ns hns => ?_, (post_mkL h (t.sortedG (fun a b => decide (a ≤ b)) ks) e p).2⟩
            have := List.all_eq_true.mp hne ns hns
            intro z
            rw [z] at this
            cases this
          · cases e
        · cases e
    · cases e
theorem Rp.hash : ∀ {kvs : List (VV × VV)} {ps : Prs}, Rp K m H kvs (ps.map fun p => (DK.t p.1 p.2.1, p.2.2)) → (kvs.map fun p => hashV p.1) = ps.map fun x => hash0 x.1
  | _, [], h => by cases h; rfl
  | _, p :: ps, h => by
    cases h with
    | tup k f r t =>
      rw [List.map_cons, List.map_cons, Rp.hash t]
      congr 1
      show (match mapO kF1 _ with
        | some k => hash0 k
        | none => 0) = _
      rw [k]
theorem post_mkD {b t : Bool} {kvs : List (VV × VV)} {xs : List (DK × V)} {o : Ad → HO} {S S' : Hs} {z : VV} {Q : VK} (h : SimH K m H S) (d : ∀ p, dcO p t xs (o p)) (r : Rp K m H kvs xs) (e : mkD b t kvs S = .ok z S') (p : Post K m H z S' Q) : ∀ q, H q = none → Q (.ref q) (upd H q (o q)) := by
  intro q hq
  unfold mkD at e
  cases b with
  | true =>
    cases e
    refine p (m.push q) _ _ (Ext.newM hq) (h.newO hq ⟨xs, o q, upd_same, d q, r.ext (Ext.newM hq)⟩) (.ref ?_)
    show (m.ix ++ [q])[S.length]? = some q
    rw [← h.len]
    simp
  | false =>
    cases e
    exact p m _ _ (Ext.new hq) (h.new hq) (.dct upd_same (out_of_none h hq) (d q) (r.ext (Ext.new hq)))
end
def biVal : Bi → Value
  | .len => .builtin "len"
  | .abs => .builtin "abs"
  | .sum => .builtin "sum"
  | .all => .builtin "all"
  | .any => .builtin "any"
  | .max => .builtin "max"
  | .min => .builtin "min"
  | .max2 => .builtin "max"
  | .max3 => .builtin "max"
  | .min2 => .builtin "min"
  | .sorted => .builtin "sorted"
  | .int => .type "int"
  | .str => .type "str"
  | .repr => .builtin "repr"
  | .tuple => .type "tuple"
  | .list => .type "list"
  | .dictOf => .type "dict"
  | .isinst _ => .builtin "isinstance"
  | _ => .none
def biPlain : Bi → Bool
  | .len | .abs | .sum | .all | .any | .max | .min | .max2 | .min2 | .max3 | .sorted | .int | .str | .repr | .tuple | .list | .dictOf => true
  | _ => false
structure XRoom (X : Cx) : Prop where
  calm : X.calm = true
  guards : X.A.guards = some []
  units : X.A.units + 100 < cLine
theorem bi_ok (xr : XRoom X) (b : Bi) (hb : biPlain b = true) (m : Bool) : ∃ r, CallR X (biVal b) r ∧ OpL X.K (biV m b) r := by
  have hu := xr.units
  cases b <;> try (exact absurd hb Bool.false_ne_true)
  · -- len
    refine ⟨_, (call_len_seq.or call_len_str).or (call_lenD.or call_lenN), fun m0 H S vs ws z S' Q h r e p => ?_⟩
    unfold biV at e
    split at e <;> first | contradiction | skip
    rename_i v hb _
    obtain ⟨w, rfl, rr⟩ := r.one
    split at e
    · split at e
      · rename_i x hl
        cases e
        cases rr
        exact .inl (.inr ⟨_, rfl, by rw [← szL_eq]; exact hl, p.here h (.int _)⟩)
      · cases e
    · split at e
      · rename_i xs e2
        cases e
        obtain ⟨a, ys, rfl, q, t⟩ := seq_rd h rr e2
        exact .inl (.inl ⟨a, ys, rfl, q, by rw [← t.length]; exact p.here h (.int _)⟩)
      · split at e
        · rename_i t kvs e2
          cases e
          obtain ⟨a, o, xs, rfl, h1, h2, h3⟩ := dct_rd h rr e2
          have hl := h3.length
          rcases h2 with ⟨rfl, ps, rfl, rfl⟩ | ⟨rfl, ps, rfl, rfl⟩
          · rw [List.length_map] at hl
            exact .inr (.inl ⟨a, _, rfl, h1, by rw [List.length_map, ← hl]; exact p.here h (.int _)⟩)
          · rw [List.length_map] at hl
            exact .inr (.inr ⟨a, ps, rfl, h1, h3.keys, by rw [← hl]; exact p.here h (.int _)⟩)
        · cases e
  · -- abs
    refine ⟨_, call_abs, fun m0 H S vs ws z S' Q h r e p => ?_⟩
    unfold biV at e
    split at e <;> first | contradiction | skip
    obtain ⟨w, rfl, rr⟩ := r.one
    cases e
    cases rr
    exact ⟨_, rfl, p.here h (.int _)⟩
  · -- sum
    refine ⟨_, (cr_sum xr.calm).or (cr_sumT xr.calm), fun m0 H S vs ws z S' Q h r e p => ?_⟩
    unfold biV at e
    split at e <;> first | contradiction | skip
    · obtain ⟨w, rfl, rr⟩ := r.one
      obtain ⟨e1, rfl⟩ := lift_eq_ok e
      obtain ⟨ns, e2, rfl⟩ := Option.map_eq_some_iff.mp e1
      cases rr with
      | tup f t =>
        have := Rs.ints e2 t
        subst this
        exact .inr ⟨_, ns, rfl, f.sq, p.here h (.int _)⟩
    · obtain ⟨w, rfl, rr⟩ := r.one
      obtain ⟨e1, rfl⟩ := lift_eq_ok e
      obtain ⟨ns, e2, rfl⟩ := Option.map_eq_some_iff.mp e1
      obtain ⟨a, rfl, q⟩ := ints_rd h rr e2
      exact .inl ⟨a, ns, rfl, SqL.of q, p.here h (.int _)⟩
  · -- all
    refine ⟨_, cr_all xr.calm, fun m0 H S vs ws z S' Q h r e p => ?_⟩
    unfold biV at e
    split at e <;> first | contradiction | skip
    obtain ⟨w, rfl, rr⟩ := r.one
    obtain ⟨e1, rfl⟩ := lift_eq_ok e
    obtain ⟨ns, e2, rfl⟩ := Option.map_eq_some_iff.mp e1
    obtain ⟨a, rfl, q⟩ := bls_rd h rr e2
    exact ⟨a, ns, rfl, SqL.of q, p.here h (.bl _)⟩
  · -- any
    refine ⟨_, cr_any xr.calm, fun m0 H S vs ws z S' Q h r e p => ?_⟩
    unfold biV at e
    split at e <;> first | contradiction | skip
    obtain ⟨w, rfl, rr⟩ := r.one
    obtain ⟨e1, rfl⟩ := lift_eq_ok e
    obtain ⟨ns, e2, rfl⟩ := Option.map_eq_some_iff.mp e1
    obtain ⟨a, rfl, q⟩ := bls_rd h rr e2
    exact ⟨a, ns, rfl, SqL.of q, p.here h (.bl _)⟩
  · -- max
    refine ⟨_, (cr_max xr.calm).or (cr_maxT xr.calm hu), fun m0 H S vs ws z S' Q h r e p => ?_⟩
    unfold biV at e
    split at e <;> first | contradiction | skip
    · obtain ⟨w, rfl, rr⟩ := r.one
      obtain ⟨e1, rfl⟩ := lift_eq_ok e
      obtain ⟨k, e2, rfl⟩ := Option.map_eq_some_iff.mp e1
      obtain ⟨ns, e3, e4⟩ := Option.bind_eq_some_iff.mp e2
      cases rr with
      | tup f t =>
        have := Rs.ints e3 t
        subst this
        cases ns with
        | nil => cases e4
        | cons x ns =>
          cases e4
          exact .inr ⟨_, x, ns, rfl, f.sq, p.here h (.int _)⟩
    · obtain ⟨w, rfl, rr⟩ := r.one
      obtain ⟨e1, rfl⟩ := lift_eq_ok e
      obtain ⟨k, e2, rfl⟩ := Option.map_eq_some_iff.mp e1
      obtain ⟨ns, e3, e4⟩ := Option.bind_eq_some_iff.mp e2
      obtain ⟨a, rfl, q⟩ := ints_rd h rr e3
      exact .inl ⟨a, ns, rfl, SqL.of q, maxI_ne e4, fun n h1 h2 => by rw [maxI_uniq e4 h1 h2]; exact p.here h (.int _)⟩
  · -- min
    refine ⟨_, (cr_min xr.calm).or (cr_minT xr.calm hu), fun m0 H S vs ws z S' Q h r e p => ?_⟩
    unfold biV at e
    split at e <;> first | contradiction | skip
    · obtain ⟨w, rfl, rr⟩ := r.one
      obtain ⟨e1, rfl⟩ := lift_eq_ok e
      obtain ⟨k, e2, rfl⟩ := Option.map_eq_some_iff.mp e1
      obtain ⟨ns, e3, e4⟩ := Option.bind_eq_some_iff.mp e2
      cases rr with
      | tup f t =>
        have := Rs.ints e3 t
        subst this
        cases ns with
        | nil => cases e4
        | cons x ns =>
          cases e4
          exact .inr ⟨_, x, ns, rfl, f.sq, p.here h (.int _)⟩
    · obtain ⟨w, rfl, rr⟩ := r.one
      obtain ⟨e1, rfl⟩ := lift_eq_ok e
      obtain ⟨k, e2, rfl⟩ := Option.map_eq_some_iff.mp e1
      obtain ⟨ns, e3, e4⟩ := Option.bind_eq_some_iff.mp e2
      obtain ⟨a, rfl, q⟩ := ints_rd h rr e3
      exact .inl ⟨a, ns, rfl, SqL.of q, minI_ne e4, fun n h1 h2 => by rw [minI_uniq e4 h1 h2]; exact p.here h (.int _)⟩
  · -- max2
    refine ⟨_, call_max2 xr.calm, fun m0 H S vs ws z S' Q h r e p => ?_⟩
    unfold biV at e
    split at e <;> first | contradiction | skip
    obtain ⟨v, w, rfl, r1, r2⟩ := r.two
    cases e
    cases r1
    cases r2
    exact ⟨_, _, rfl, p.here h (.int _)⟩
  · -- min2
    refine ⟨_, call_min2 xr.calm, fun m0 H S vs ws z S' Q h r e p => ?_⟩
    unfold biV at e
    split at e <;> first | contradiction | skip
    obtain ⟨v, w, rfl, r1, r2⟩ := r.two
    cases e
    cases r1
    cases r2
    exact ⟨_, _, rfl, p.here h (.int _)⟩
  · -- max3
    refine ⟨_, call_max3Nu xr.calm, fun m0 H S vs ws z S' Q h r e p => ?_⟩
    unfold biV at e
    split at e <;> first | contradiction | skip
    obtain ⟨u, v, w, rfl, r1, r2, r3⟩ := r.three
    cases e
    cases r1
    cases r2
    cases r3
    rename_i i j k _
    refine ⟨_, _, _, .int (if (if i < j then j else i) < k then k else (if i < j then j else i)), rfl, ?_, p.here h (.int _)⟩
    show ((nuLt (.int i) (.int j)).map _).bind _ = _
    show ((some (decide (i < j))).map fun c => if c = true then V.int j else V.int i).bind _ = _
    by_cases h1 : i < j
    · rw [decide_eq_true h1, if_pos h1]
      show (some (decide (j < k))).map (fun c => if c = true then V.int k else V.int j) = _
      by_cases h2 : j < k
      · rw [decide_eq_true h2, if_pos h2]; rfl
      · rw [decide_eq_false h2, if_neg h2]; rfl
    · rw [decide_eq_false h1, if_neg h1]
      show (some (decide (i < k))).map (fun c => if c = true then V.int k else V.int i) = _
      by_cases h2 : i < k
      · rw [decide_eq_true h2, if_pos h2]; rfl
      · rw [decide_eq_false h2, if_neg h2]; rfl
  · -- sorted
    refine ⟨_, (cr_sortedI.or ((cr_sortedDt hu).or (cr_sortedDN hu xr.calm))).or cr_sortedT, fun m0 H S vs ws z S' Q h r e p => ?_⟩
    unfold biV at e
    split at e <;> first | contradiction | skip
    · obtain ⟨w, rfl, rr⟩ := r.one
      split at e
      · rename_i ns e2
        cases rr with
        | tup f t =>
          have := Rs.ints e2 t
          subst this
          refine .inr ⟨_, ns, rfl, f.sq, fun ns' q h1 h2 h3 => ?_⟩
          obtain rfl := sorted_uniq (h1.trans (sortI_perm ns).symm) h2 (sortI_sorted ns)
          exact (post_mkL h Rs.of_ints e p).2 q h3
      · cases e
    · obtain ⟨w, rfl, rr⟩ := r.one
      split at e
      · rename_i ns e2
        obtain ⟨a, rfl, q⟩ := ints_rd h rr e2
        refine .inl (.inl ⟨a, ns, rfl, SqL.of q, fun ns' q h1 h2 h3 => ?_⟩)
        obtain rfl := sorted_uniq (h1.trans (sortI_perm ns).symm) h2 (sortI_sorted ns)
        exact (post_mkL h Rs.of_ints e p).2 q h3
      · exact .inl (.inr (sd_sortX h rr e p))
  · -- int
    refine ⟨_, call_int1.or call_int_str, fun m0 H S vs ws z S' Q h r e p => ?_⟩
    unfold biV at e
    split at e <;> first | contradiction | skip
    · obtain ⟨w, rfl, rr⟩ := r.one
      cases e
      cases rr
      exact .inl (.inl ⟨_, rfl, p.here h (.int _)⟩)
    · obtain ⟨w, rfl, rr⟩ := r.one
      cases e
      cases rr
      exact .inl (.inr ⟨_, rfl, p.here h (.int _)⟩)
    · obtain ⟨w, rfl, rr⟩ := r.one
      split at e
      · rename_i hn
        split at e
        · rename_i hl
          cases e
          cases rr
          exact .inr ⟨_, _, rfl, hn, hl, p.here h (.int _)⟩
        · cases e
      · cases e
  · -- str
    refine ⟨_, call_str_int, fun m0 H S vs ws z S' Q h r e p => ?_⟩
    unfold biV at e
    split at e <;> first | contradiction | skip
    obtain ⟨w, rfl, rr⟩ := r.one
    split at e
    · rename_i hl
      cases e
      cases rr
      exact ⟨_, rfl, Nat.lt_of_lt_of_le (PySem.Flt.log2_lt_of (k := 400) (by decide) (Nat.lt_trans hl (by decide))) (by decide), p.here h (.str _)⟩
    · cases e
  · -- repr
    refine ⟨_, call_reprD xr.guards (by omega), fun m0 H S vs ws z S' Q h r e p => ?_⟩
    unfold biV at e
    split at e <;> first | contradiction | skip
    obtain ⟨w, rfl, rr⟩ := r.one
    obtain ⟨e1, rfl⟩ := lift_eq_ok e
    obtain ⟨k, e2, rfl⟩ := Option.map_eq_some_iff.mp e1
    unfold reprV at e2
    split at e2
    · rename_i d e3
      split at e2
      · rename_i hw
        cases e2
        obtain ⟨h1, h2, h3⟩ := toD_ok h _ _ _ _ rr e3
        have hd : dpt ≤ 64 := by decide
        exact ⟨w, d, rfl, h1, h2, by omega, hw, p.here h (.str _)⟩
      · cases e2
    · cases e2
  · -- tuple
    refine ⟨_, call_tuple_of, fun m0 H S vs ws z S' Q h r e p => ?_⟩
    unfold biV at e
    split at e <;> first | contradiction | skip
    obtain ⟨w, rfl, rr⟩ := r.one
    split at e
    · rename_i xs e2
      cases rr <;> simp [seqOf] at e2
      · subst e2
        rename_i f t
        refine ⟨_, _, rfl, .inr ⟨FzT.sq (by assumption), ?_⟩⟩
        unfold mkT at e
        split at e
        · cases e
          exact p.here h (.tup (by assumption) (by assumption))
        · cases e
      · subst e2
        exact ⟨_, _, rfl, .inl ⟨FzL.sq (by assumption), (post_mkT h (by assumption) e p).2⟩⟩
      · rename_i k hk
        obtain ⟨us, h1, t⟩ := h.list hk e2
        exact ⟨_, _, rfl, .inl ⟨SqL.of h1, (post_mkT h t e p).2⟩⟩
    · cases e
  · -- list
    refine ⟨_, call_list_of.or ((call_list_dK xr.calm).or (call_listN xr.calm)), fun m0 H S vs ws z S' Q h r e p => ?_⟩
    unfold biV at e
    split at e <;> first | contradiction | skip
    obtain ⟨w, rfl, rr⟩ := r.one
    split at e
    · rename_i xs e2
      obtain ⟨a, ys, rfl, q, t⟩ := seq_rd h rr e2
      exact .inl ⟨a, ys, rfl, q, (post_mkL h t e p).2⟩
    · split at e
      · rename_i t kvs e2
        obtain ⟨a, o, xs, rfl, h1, h2, h3⟩ := dct_rd h rr e2
        have k := (post_mkL h h3.rkeys e p).2
        rcases h2 with ⟨rfl, ps, rfl, rfl⟩ | ⟨rfl, ps, rfl, rfl⟩
        · refine .inr (.inl ⟨a, _, rfl, h1, fun q hq => ?_⟩)
          have := k q hq
          rw [List.map_map] at this ⊢
          exact this
        · refine .inr (.inr ⟨a, ps, rfl, h1, fun q hq => ?_⟩)
          have := k q hq
          rw [List.map_map] at this
          exact this
      · cases e
  · -- dict
    refine ⟨_, call_dictK.or ((call_dictN (X := X) (by omega)).or (call_dictP (X := X) (by omega) xr.calm)), fun m0 H S vs ws z S' Q h r e p => ?_⟩
    unfold biV at e
    split at e <;> first | contradiction | skip
    obtain ⟨w, rfl, rr⟩ := r.one
    split at e
    · rename_i t kvs e2
      split at e
      · rename_i hc
        obtain ⟨a, o, xs, rfl, h1, h2, h3⟩ := dct_rd h rr e2
        rcases h2 with ⟨rfl, ps, rfl, rfl⟩ | ⟨rfl, ps, rfl, rfl⟩
        · exact .inl ⟨a, _, rfl, h1, post_mkD (o := fun _ => .dK _) h (fun q => .inl ⟨rfl, ps, rfl, rfl⟩) h3 e p⟩
        · refine .inr (.inl ⟨a, ps, rfl, h1, h3.keys, ?_, post_mkD (o := fun q => dicO q ps) h (fun q => .inr ⟨rfl, ps, rfl, rfl⟩) h3 e p⟩)
          rcases hc with hc | hc
          · cases hc
          · have := of_decide_eq_true hc
            rw [h3.hash] at this
            exact this
      · cases e
    · split at e
      · rename_i xs e3
        obtain ⟨kvs, S2, e4, e5⟩ := Out.bind_eq_ok e
        obtain ⟨e6, rfl⟩ := lift_eq_ok e4
        obtain ⟨a, ys, rfl, h1, h2⟩ := lst_rd h rr e3
        obtain ⟨ps, h3, h4⟩ := putAll_rd _ (ap := []) h2 e6 .nil
        exact .inr (.inr ⟨a, ys, ps, rfl, SqL.of h1, h3, post_mkD (o := fun q => dicO q (putsN [] ps)) h (fun q => .inr ⟨rfl, _, rfl, rfl⟩) h4 e5 p⟩)
      · cases e
end
end Tw
set_option Elab.async false
set_option linter.all false
set_option autoImplicit false
set_option maxRecDepth 100000
namespace Tw
open PySem PySem.Spec PyProof.Rows L2
theorem forIn_yield {α β : Type} (f : α → β → Sem (ForInStep β)) (g : β → α → β) (P : α → β → Prop) (hf : ∀ a b, P a b → f a b = pure (.yield (g b a))) :
    ∀ (l : List α) (b : β), (∀ i a, l[i]? = some a → P a ((l.take i).foldl g b)) → forIn l b f = pure (l.foldl g b)
  | [], b, _ => by rw [List.forIn_nil]; rfl
  | a :: l, b, h => by
    rw [List.forIn_cons, hf a b (h 0 a rfl)]
    show forIn l (g b a) f = _
    rw [forIn_yield f g P hf l (g b a) fun i c hc => h (i + 1) c hc]
    rfl
theorem foldl_app {κ : Type} : ∀ (l : List κ) (b : List κ × List κ), l.foldl (fun b a => (b.1 ++ [a], b.2)) b = (b.1 ++ l, b.2)
  | [], b => by simp
  | a :: l, b => by
    show l.foldl _ (b.1 ++ [a], b.2) = _
    rw [foldl_app l]
    simp
theorem bind_kw (x qual : Str) (as : List Arg) (body : List Stmt) (scope : Scope) (kV doc pm : Value) (an : Option Addr) (cdv ct : Value) (us : List Value) (kws : List (Str × Value))
    (hn : us.length ≤ as.length) (hk : ∀ (i : Nat) k, kws[i]? = some k → (as.map (·.arg)).contains k.1 = true ∧ (((as.map (·.arg)).zip us ++ kws.take i).lookup k.1).isSome = false)
    (hall : ∀ p ∈ as.map (·.arg), (((as.map (·.arg)).zip us ++ kws).lookup p).isSome = true) (dfs : List Expr) (kwd : List (Option Expr)) :
    bindArgs (PySem.W.fnOf x qual { posonlyargs := [], args := as, vararg := none, kwonlyargs := [], kw_defaults := kwd, kwarg := none, defaults := dfs } body scope .none kV doc pm an cdv ct) ⟨us, kws⟩ =
      pure ((as.map (·.arg)).filterMap fun n => (((as.map (·.arg)).zip us ++ kws).lookup n).map (n, ·)) := by
  simp only [bindArgs, PySem.W.fnOf, List.map_nil, List.nil_append, List.append_nil]
  rw [forIn_yield _ (fun (b : List (Str × Value) × List (Str × Value)) a => (b.1 ++ [a], b.2)) (fun k b => (as.map (·.arg)).contains k.1 = true ∧ (b.1.lookup k.1).isSome = false) ?_ kws _ ?_]
  · rw [foldl_app]
    have h2 : ((as.map (·.arg)).take (as.map (·.arg)).length).filter (fun n => (((as.map (·.arg)).zip us ++ kws).lookup n).isNone) = [] := by
      rw [List.take_length]
      refine List.filter_eq_nil_iff.mpr fun p hp => ?_
      have := hall p hp
      cases h : ((as.map (·.arg)).zip us ++ kws).lookup p with
      | none => rw [h] at this; cases this
      | some _ => simp
    simp only [pure_bind]
    show (do
      let __do_lift ← (pure none : Sem (Option (Array Value)))
      _) = _
    simp only [pure_bind, Option.getD_none, List.length_nil, Nat.sub_zero, List.drop_nil, h2]
    simp
    intro h
    omega
  · intro a b h
    simp only [h.1, h.2, Bool.true_or, if_true, Bool.false_eq_true, if_false]
  · intro i a ha
    rw [foldl_app]
    exact hk i a ha
def FdOk (fd : FuncData) (ps : List Str) : Prop := ∃ (x qual : Str) (as : List Arg) (kwd : List (Option Expr)) (dfs : List Expr) (body : List Stmt) (scope : Scope) (kV doc pm : Value) (an : Option Addr) (cdv ct : Value),
  fd = PySem.W.fnOf x qual { posonlyargs := [], args := as, vararg := none, kwonlyargs := [], kw_defaults := kwd, kwarg := none, defaults := dfs } body scope .none kV doc pm an cdv ct ∧ as.map (·.arg) = ps
theorem lookup_zip {α : Type} : ∀ {ns : List Str} {vs : List α} (_ : ns.Nodup) (_ : ns.length = vs.length) {i : Nat} {n : Str}, ns[i]? = some n → (ns.zip vs).lookup n = vs[i]?
  | [], _, _, _, _, _, h => by simp at h
  | n :: ns, [], _, e, _, _, _ => by simp at e
  | n :: ns, v :: vs, nd, e, 0, m, h => by
    simp at h
    subst h
    simp [List.lookup_cons]
  | n :: ns, v :: vs, nd, e, i + 1, m, h => by
    have nd' := List.nodup_cons.mp nd
    have h' : ns[i]? = some m := by simpa using h
    have hne : (m == n) = false := by
      refine beq_eq_false_iff_ne.mpr fun q => ?_
      exact nd'.1 (q ▸ List.mem_of_getElem? h')
    show List.lookup m ((n, v) :: ns.zip vs) = _
    rw [List.lookup_cons, hne]
    simpa using lookup_zip nd'.2 (by simpa using e) h'
theorem lookup_zip_none {α : Type} : ∀ {ns : List Str} {vs : List α} {n : Str}, n ∉ ns → (ns.zip vs).lookup n = none
  | [], _, _, _ => rfl
  | _ :: _, [], _, _ => rfl
  | m :: ns, v :: vs, n, h => by
    have h' : n ≠ m ∧ n ∉ ns := by simpa only [List.mem_cons, not_or] using h
    show List.lookup n ((m, v) :: ns.zip vs) = _
    rw [List.lookup_cons, beq_eq_false_iff_ne.mpr h'.1]
    exact lookup_zip_none h'.2
def permOf (ps : List Str) (np : Nat) (ks : List Str) : Option (List Nat) :=
  if np ≤ ps.length ∧ (ps.take np ++ ks).Nodup ∧ ps.Nodup ∧ (ps.take np ++ ks).length = ps.length ∧ (ps.all fun p => (ps.take np ++ ks).contains p) = true ∧ (ks.all fun k => ps.contains k) = true then some (ps.map fun p => (ps.take np ++ ks).idxOf p) else none
def pick {α : Type} (perm : List Nat) (xs : List α) : List α := perm.filterMap fun i => xs[i]?
theorem zip_take {α β : Type} : ∀ (xs : List α) (ys : List β), xs.zip ys = (xs.take ys.length).zip ys
  | [], _ => by simp
  | _ :: _, [] => by simp
  | x :: xs, y :: ys => by simp [zip_take xs ys]
theorem fm_congr {α β : Type} {f g : α → Option β} : ∀ {l : List α}, (∀ a ∈ l, f a = g a) → l.filterMap f = l.filterMap g
  | [], _ => rfl
  | a :: l, h => by
    rw [List.filterMap_cons, List.filterMap_cons, h a List.mem_cons_self, fm_congr fun b hb => h b (List.mem_cons_of_mem _ hb)]
theorem take_zip' {α β : Type} : ∀ (xs : List α) (ys : List β) (n : Nat), (xs.zip ys).take n = (xs.take n).zip (ys.take n)
  | _, _, 0 => by simp
  | [], _, _ + 1 => by simp
  | _ :: _, [], _ + 1 => by simp
  | x :: xs, y :: ys, n + 1 => by simp [take_zip' xs ys n]
theorem filterMap_zip {α : Type} {f : Str → Option α} : ∀ {ps : List Str}, (∀ p ∈ ps, (f p).isSome = true) → ps.filterMap (fun n => (f n).map (n, ·)) = ps.zip (ps.filterMap f)
  | [], _ => rfl
  | p :: ps, h => by
    have h1 := h p List.mem_cons_self
    cases e : f p with
    | none => rw [e] at h1; cases h1
    | some v =>
      rw [List.filterMap_cons, List.filterMap_cons, e]
      show (p, v) :: ps.filterMap _ = (p, v) :: ps.zip (ps.filterMap f)
      rw [filterMap_zip fun q hq => h q (List.mem_cons_of_mem _ hq)]
theorem binds_kw {s : Shared} {fd : FuncData} {ps ks : List Str} {perm : List Nat} {us ws : List Value} (F : FdOk fd ps) (hp : permOf ps us.length ks = some perm) (hw : ws.length = ks.length) :
    BindsTo s fd ⟨us, ks.zip ws⟩ (ps.zip (pick perm (us ++ ws))) := by
  obtain ⟨x, qual, as, kwd, dfs, body, scope, kV, doc, pm, an, cdv, ct, rfl, rfl⟩ := F
  unfold permOf at hp
  split at hp
  · rename_i hc
    obtain ⟨c1, c2, c3, c4, c5, c6⟩ := hc
    cases hp
    have ez : (as.map (·.arg)).zip us ++ ks.zip ws = ((as.map (·.arg)).take us.length ++ ks).zip (us ++ ws) := by
      rw [zip_take, List.zip_append (by rw [List.length_take]; omega)]
    have el : ((as.map (·.arg)).take us.length ++ ks).length = (us ++ ws).length := by
      rw [List.length_append, List.length_append, List.length_take, hw]
      omega
    have look : ∀ p ∈ as.map (·.arg), ((as.map (·.arg)).zip us ++ ks.zip ws).lookup p = (us ++ ws)[((as.map (·.arg)).take us.length ++ ks).idxOf p]? := fun p hpm => by
      rw [ez]
      refine lookup_zip c2 el ?_
      have hm : p ∈ (as.map (·.arg)).take us.length ++ ks := by simpa using List.all_eq_true.mp c5 p hpm
      have := List.idxOf_lt_length_of_mem hm
      rw [List.getElem?_eq_getElem this, List.getElem_idxOf this]
    have some_ : ∀ p ∈ as.map (·.arg), (((as.map (·.arg)).zip us ++ ks.zip ws).lookup p).isSome = true := fun p hpm => by
      have hm : p ∈ (as.map (·.arg)).take us.length ++ ks := by simpa using List.all_eq_true.mp c5 p hpm
      have hlt := List.idxOf_lt_length_of_mem hm
      rw [look p hpm, List.getElem?_eq_getElem (by rw [← el]; exact hlt)]
      rfl
    refine .of_eq ?_
    rw [bind_kw x qual as body scope kV doc pm an cdv ct us (ks.zip ws) (by rw [List.length_map] at c1; exact c1) ?_ some_ dfs kwd, filterMap_zip some_]
    · congr 2
      refine (fm_congr fun p hpm => look p hpm).trans ?_
      exact (List.filterMap_map (f := fun p => List.idxOf p (List.take us.length (List.map (fun x => x.arg) as) ++ ks)) (g := fun i => (us ++ ws)[i]?)).symm
    · intro i k hk
      obtain ⟨hi, hk'⟩ := List.getElem?_eq_some_iff.mp hk
      have hik : i < ks.length := by rw [List.length_zip] at hi; omega
      have hiw : i < ws.length := by omega
      rw [List.getElem_zip] at hk'
      subst hk'
      have hkm : ks[i] ∈ ks := List.getElem_mem hik
      refine ⟨by simpa using List.all_eq_true.mp c6 _ hkm, ?_⟩
      have nd := List.nodup_append.mp c2
      have e1 : (as.map (·.arg)).zip us ++ (ks.zip ws).take i = ((as.map (·.arg)).take us.length ++ ks.take i).zip (us ++ ws.take i) := by
        rw [zip_take, List.zip_append (by rw [List.length_take]; omega), take_zip']
      show (List.lookup ks[i] _).isSome = false
      rw [e1, lookup_zip_none]
      · rfl
      · intro hm
        rcases List.mem_append.mp hm with q | q
        · exact nd.2.2 _ q _ hkm rfl
        · obtain ⟨j, hj⟩ := List.mem_iff_getElem?.mp q
          rw [List.getElem?_take] at hj
          split at hj
          · rename_i hji
            have := nodup_ix nd.2.1 hj (List.getElem?_eq_getElem hik)
            omega
          · cases hj
  · cases hp
theorem pick_take {α : Type} (xs : List α) : ∀ n : Nat, pick (List.range n) xs = xs.take n
  | 0 => by simp [pick]
  | n + 1 => by
    have ih := pick_take xs n
    unfold pick at ih ⊢
    rw [List.range_succ, List.filterMap_append, ih, List.take_add_one]
    cases h : xs[n]? <;> simp [h]
structure FnG (P : Program) (w : World) (K : PySem.W.Frag) (mg : Str → Option Value) (base : Heap) (CX : CXT) (k : Nat) (f : Addr) (fd : FuncData) (ps : List Str) (sp : Sp) : Prop where
  len : ∀ vs H Q E, sp vs H Q E → vs.length = ps.length
  run : ∀ (A : Around) (outer : List Env) (s : Shared) (H : Hp) (args : Args) (us : List Value) (vs : List V) (Q : VK) (E : XK), Room k A → A.guards = some [] → Env0 P w K mg base A outer s H →
    BindsTo s fd args (ps.zip us) → Vals vs us → sp vs H Q E → codeAny (model P w) A (.call (.ref f) args) (CR CX outer P w H s Q E) s
section
variable {P : Program} {w : World} {K : PySem.W.Frag} {mg : Str → Option Value} {base : Heap} {CX : CXT} {k : Nat} {f : Addr} {qual : Str} {scope : Scope} {N ps : List Str} {sp : Sp}
theorem fnG_of {name : Str} {params : Arguments} {body : List Stmt} {dV kV doc pm cdv ct oc : Value} {an od : Option Addr} {osl : Array (Option Value)}
    (lk : K.lookup f = some ⟨oc, od, .func (PySem.W.fnOf name qual params body scope dV kV doc pm an cdv ct), osl⟩) (hcd : PySem.W.codeIn K cdv qual = true) (S : FnScope N ps scope)
    (len : ∀ vs H Q E, sp vs H Q E → vs.length = ps.length)
    (hb : ∀ (A : Around) (outer : List Env) (s : Shared) (H : Hp) (vs : List V) (Q : VK) (E : XK), Room k (A.deeper (envOfC qual scope s.heap.objs.size f cdv)) → A.guards = some [] → sp vs H Q E →
      ∃ t, PSs (cxOf CX P w K mg base N qual scope f cdv A outer s H E) body t ∧ t { nx := fun _ H' => Q .non H', rt := Q } (start N vs) H) :
    FnG P w K mg base CX (k + 1) f (PySem.W.fnOf name qual params body scope dV kV doc pm an cdv ct) ps sp := by
  refine ⟨len, fun A outer s H args us vs Q E hr hg e0 hbind r hsp => ?_⟩
  have hroom := hr.deeper (envOfC qual scope s.heap.objs.size f cdv)
  obtain ⟨t, ht, hq⟩ := hb A outer s H vs Q E hroom hg hsp
  -- the library's own rule, at this one call
  let sp1 : Sp := fun vs' H' Q' E' => vs'.length = ps.length ∧ ∃ A', A' = A ∧ vs' = vs ∧ H' = H ∧ Q' = Q ∧ E' = E
  have KX : K.In s.heap := e0.mod.kin.keeps fun b o e => (e0.bs b o e).1
  have lim : s.heap.NoLimit := e0.mod.nolimit.keeps fun b o e => (e0.bs b o e).1
  refine codeAny_call_function hr.depth (KX _ _ lk) rfl S.co S.gen rfl (PySem.W.codeRec_of KX hcd) (hbind _ _ _ _ ?_)
  have kinds : ∀ y ∈ ps.zip us, scope.names.lookup y.1 = some .local ∨ (scope.names.lookup y.1 = some .cell ∧ ((cellsFrom (s.heap.objs.size + 1) scope.names []).lookup y.1).isSome = true) := by
    rintro ⟨n, v⟩ hy
    have hn : n ∈ ps := (List.of_mem_zip hy).1
    rcases S.par n hn with q | q
    · exact Or.inl q
    · exact Or.inr ⟨q, PySem.W.cellsFrom_some _ _ _ (Or.inl q)⟩
  refine wpAny_newFunctionEnv_cells S.kind kinds fun env he s1 x => ?_
  cases he
  refine ⟨lim.keeps x.toInCall.keep, codeAny_func ?_⟩
  have I := inv_start (CX := CX) (E := E) S hr.hd e0 (len _ _ _ _ hsp) r x
  refine wpAny_mono (ht.run [] s1 (start N vs) H _ I hq) ?_ fun _ _ z => z
  intro fl s' hs
  cases fl with
  | ret u =>
    obtain ⟨v, σ', H', J, rv, q⟩ := hs
    exact ⟨v, H', J.os, J.bare, J.base, J.hok, rv, q⟩
  | next =>
    obtain ⟨σ', H', J, q⟩ := hs
    exact ⟨V.non, H', J.os, J.bare, J.base, J.hok, rfl, q⟩
  | brk => obtain ⟨_, _, _, q⟩ := hs; exact q.elim
  | cont => obtain ⟨_, _, _, q⟩ := hs; exact q.elim
end
section
variable {X : Cx} {CX : CXT} {k : Nat} {f : Addr} {fd : FuncData} {ps ks : List Str} {perm : List Nat} {sp : Sp} {E : XK} {x : Str} {p pos : Pos} {e : Expr} {es : List Expr} {kws : List Keyword} {t tk : TA}
theorem run_kw {pins : List (Addr × Obj)} {σ : L2.St} {H : Hp} {s : Shared} {Q : VK} {us ws : List Value} {vs zs : List V} (F : FnG X.prog X.w X.K X.mg X.base CX k f fd ps sp) (hf : FdOk fd ps) (hr : Room k X.A) (hg : X.A.guards = some []) (hx : ∀ e s', CX X.stack H s E e s' → X.xe e s')
    (hp : permOf ps us.length ks = some perm) (hw : ws.length = ks.length)
    (I : Inv X pins σ H s) (r : Vals vs us) (rz : Vals zs ws) (h : sp (pick perm (vs ++ zs)) H Q E) : wpAny (model X.prog X.w) X.A (PySem.call (.ref f) us (ks.zip ws)) (EP X pins σ Q) X.xe s := by
  have rel : ∀ (perm : List Nat) {as : List V} {bs : List Value}, Vals as bs → Vals (pick perm as) (pick perm bs) := by
    intro perm as bs r
    induction perm with
    | nil => exact .nil
    | cons i perm ih =>
      unfold pick at ih ⊢
      rw [List.filterMap_cons, List.filterMap_cons]
      cases e1 : as[i]? with
      | none =>
        rw [r.none_of e1]
        exact ih
      | some a =>
        obtain ⟨b, hb, rb⟩ := r.get e1
        rw [hb]
        exact .cons rb ih
  refine wpAny_call (codeAny_mono (F.run X.A X.stack s H ⟨us, ks.zip ws⟩ (pick perm (us ++ ws)) (pick perm (vs ++ zs)) Q E hr hg I.env0 (binds_kw hf hp hw) (rel perm (r.append rz)) h) fun r s' hq => ?_)
  cases r with
  | error e => exact hx e s' hq
  | ok fl =>
    cases fl with
    | ret u => exact I.after hq
    | next => exact hq.elim
    | brk => exact hq.elim
    | cont => exact hq.elim
end
end Tw
set_option Elab.async false
set_option linter.all false
set_option autoImplicit false
set_option maxRecDepth 100000
namespace Tw
open PySem PySem.Spec PyProof.Rows L2
theorem mkL_noX (m : Bool) (xs : List VV) (s : Hs) (v : VV) (s' : Hs) : mkL m xs s ≠ .exc v s' := by
  unfold mkL
  split
  · split <;> (intro h; cases h)
  · intro h; cases h
theorem mkT_noX (xs : List VV) (s : Hs) (v : VV) (s' : Hs) : mkT xs s ≠ .exc v s' := by
  unfold mkT
  split <;> (intro h; cases h)
theorem binL_noX (m : Bool) (o : Bop) (x y : VV) (s : Hs) (v : VV) (s' : Hs) : binL m o x y s ≠ .exc v s' := by
  unfold binL
  repeat' split
  all_goals first | (intro h; cases h; done) | exact mkL_noX _ _ _ _ _ | exact mkT_noX _ _ _ _
theorem binG_noX (m : Bool) (o : Bop) (x y : VV) (s : Hs) (v : VV) (s' : Hs) : binG m o x y s ≠ .exc v s' := by
  unfold binG binV catS
  repeat' split
  all_goals first | (intro h; cases h; done) | exact mkT_noX _ _ _ _ | exact lift_noX _ _ _ _ | exact binL_noX _ _ _ _ _ _ _
theorem gIdx_noX (x y : VV) (s : Hs) (v : VV) (s' : Hs) : gIdx x y s ≠ .exc v s' := by
  unfold gIdx
  repeat' split
  all_goals first | (intro h; cases h; done) | exact lift_noX _ _ _ _
theorem gSl_noX (m : Bool) (x : VV) (l u : Option Int) (s : Hs) (v : VV) (s' : Hs) : gSl m x l u s ≠ .exc v s' := by
  unfold gSl
  repeat' split
  all_goals first | (intro h; cases h; done) | exact mkL_noX _ _ _ _ _
theorem gCmp_noX (o : Cop) (x y : VV) (s : Hs) (v : VV) (s' : Hs) : gCmp o x y s ≠ .exc v s' := lift_noX _ _ _ _
theorem gNeg_noX (x : VV) (s : Hs) (v : VV) (s' : Hs) : gNeg x s ≠ .exc v s' := lift_noX _ _ _ _
theorem sortK_noX (m : Bool) (ys : List VV) (s : Hs) (v : VV) (s' : Hs) : sortK m ys s ≠ .exc v s' := by
  unfold sortK
  repeat' split
  all_goals first | (intro h; cases h; done) | exact mkL_noX _ _ _ _ _
theorem sortDV_noX (m : Bool) (x : VV) (s : Hs) (v : VV) (s' : Hs) : sortDV m x s ≠ .exc v s' := by
  unfold sortDV
  repeat' split
  all_goals first | (intro h; cases h; done) | exact mkL_noX _ _ _ _ _ | exact sortK_noX _ _ _ _ _
theorem sortSumV_noX (r m : Bool) (x : VV) (s : Hs) (v : VV) (s' : Hs) : sortSumV r m x s ≠ .exc v s' := by
  unfold sortSumV
  repeat' split
  all_goals first | (intro h; cases h; done) | exact mkL_noX _ _ _ _ _
theorem gRev_noX (m : Bool) (x : VV) (s : Hs) (v : VV) (s' : Hs) : gRev m x s ≠ .exc v s' := by
  unfold gRev
  repeat' split
  all_goals first | (intro h; cases h; done) | exact mkL_noX _ _ _ _ _
theorem rg_eq {α : Type} {vs : List VV} {s : Hs} {g : Src → Hs → Out α} {v : VV} {s' : Hs} (h : (gRange vs s).bind g = .exc v s') : ∃ r s1, gRange vs s = .ok r s1 ∧ g r s1 = .exc v s' := by
  cases e : gRange vs s with
  | ok r s1 => rw [e] at h; exact ⟨r, s1, rfl, h⟩
  | bad => rw [e] at h; cases h
  | exc v1 s1 =>
    unfold gRange at e
    repeat' split at e
    all_goals cases e
theorem mkD_noX (m t : Bool) (kvs : List (VV × VV)) (s : Hs) (v : VV) (s' : Hs) : mkD m t kvs s ≠ .exc v s' := by
  unfold mkD
  split <;> (intro h; cases h)
theorem putD_noX (m : Bool) (ps : List VV) (s : Hs) (v : VV) (s' : Hs) : ((lift (putAll true ps []) s).bind fun kvs s => mkD m true kvs s) ≠ .exc v s' := by
  cases e : putAll true ps [] with
  | none => intro h; cases h
  | some k => exact mkD_noX _ _ _ _ _ _
theorem biV_noX (m : Bool) (b : Bi) (xs : List VV) (s : Hs) (v : VV) (s' : Hs) : biV m b xs s ≠ .exc v s' := by
  unfold biV
  repeat' split
  all_goals first | (intro h; cases h; done) | exact lift_noX _ _ _ _ | exact mkL_noX _ _ _ _ _ | exact mkT_noX _ _ _ _ | exact mkD_noX _ _ _ _ _ _ | exact putD_noX _ _ _ _ _ | exact sortDV_noX _ _ _ _ _ | exact sortSumV_noX _ _ _ _ _ _ | (intro h; obtain ⟨z, s1, e1, h⟩ := rg_eq h; first | exact mkL_noX _ _ _ _ _ h | exact mkT_noX _ _ _ _ h)
theorem bmV_noX (b : Bm) (x : VV) (xs : List VV) (s : Hs) (v : VV) (s' : Hs) : bmV b x xs s ≠ .exc v s' := by
  unfold bmV
  repeat' split
  all_goals first | (intro h; cases h; done) | exact lift_noX _ _ _ _ | exact mkL_noX _ _ _ _ _
theorem setD_noX (k : Nat) (i x : VV) (s : Hs) (v : VV) (s' : Hs) : setD s k i x ≠ .exc v s' := by
  unfold setD
  repeat' split
  all_goals (intro h; cases h)
theorem setAt_noX (o i x : VV) (s : Hs) (v : VV) (s' : Hs) : setAt s o i x ≠ .exc v s' := by
  unfold setAt
  repeat' split
  all_goals first | exact setD_noX _ _ _ _ _ _ | (intro h; cases h; done)
def SE (X : Cx) (w : Wish) (cl : Cl) (e : Expr) (ir : Ex) : Prop := PE X e (rdE X.K w (ev cl ir))
def tst (cl : Cl) (ir : Ex) : Sv → Hs → Out Bool := fun σ s => (ev cl ir σ s).bind fun v s => lift (trV s v) s
def ST (X : Cx) (w : Wish) (cl : Cl) (e : Expr) (ir : Ex) : Prop := PT X e (rdT X.K w (tst cl ir))
structure SB (X : Cx) (w : Wish) (cl : Cl) (e : Expr) (ir : Ex) : Prop where
  v : SE X w cl e ir
  t : ST X w cl e ir
def SA (X : Cx) (w : Wish) (cl : Cl) (es : List Expr) (irs : List Ex) : Prop := PA X es (rdA X.K w (evs cl irs))
def notStar : Expr → Bool
  | .Starred .. => false
  | _ => true
theorem star_cons {e : Expr} {es : List Expr} {env : Env} (h : notStar e = true) : starEach (e :: es) env = (false, eval e env) :: starEach es env := by
  cases e <;> first | rfl | cases h
theorem star_plain {env : Env} {pos : Pos} : ∀ {es : List Expr}, (∀ e ∈ es, notStar e = true) → (backTo pos (starEach es env)).any (·.1) = false
  | [], _ => rfl
  | e :: es, h => by
    rw [star_cons (h e List.mem_cons_self)]
    show (false || (backTo pos (starEach es env)).any (·.1)) = false
    rw [star_plain fun e he => h e (List.mem_cons_of_mem _ he)]
    rfl
section
variable {X : Cx} {w : Wish} {cl : Cl}
theorem sa_nil : SA X w cl [] [] := PA.imp pa_nil fun σ H Q ⟨m, σv, S, s, e⟩ => by
  have e : Posts X.K m H [] S Q := e
  exact e m H [] Ext.refl s.h .nil
theorem sa_cons {e : Expr} {es : List Expr} {ir : Ex} {irs : List Ex} (hn : notStar e = true) (h : SE X w cl e ir) (t : SA X w cl es irs) : SA X w cl (e :: es) (ir :: irs) :=
  PA.imp (pa_cons h t (star_cons hn)) fun σ H Q ⟨m, σv, S, s, q⟩ => by
    have q : Res X.K w m H σ ((ev cl ir σv S).bind fun v s => (evs cl irs σv s).bind fun vs s => .ok (v :: vs) s) _ := q
    refine rd_then s (q.bind.imp fun x S1 q1 m1 H1 v x1 s1 r1 => rd_thenA s1 ((q1.bind.ext x1).imp fun xs S2 q2 m2 H2 vs x2 s2 r2 => ?_))
    have q2 : Posts X.K m H (x :: xs) S2 Q := q2
    exact q2 m2 H2 (v :: vs) (x1.trans x2) s2.h (.cons (r1.ext x2) r2)
theorem st_of {e : Expr} {ir : Ex} (h : SE X w cl e ir) (he : ∀ whole, isTrue e X.env whole = (do let v ← whole; standAt e.pos; holding [v] (truthy v))) : ST X w cl e ir :=
  PT.imp (pt_truth h he) fun σ H Q ⟨m, σv, S, s, q⟩ => by
    have q : Res X.K w m H σ ((ev cl ir σv S).bind fun v s => lift (trV s v) s) _ := q
    refine rd_then s (q.bind.imp fun x S1 q1 m1 H1 v x1 s1 r1 => ?_)
    obtain ⟨b, S', e1, p⟩ := q1.ok (lift_noX _ _)
    obtain ⟨e2, rfl⟩ := lift_eq_ok e1
    exact ⟨b, tru_of s1.h r1 e2, p m1 H1 x1 s1.h⟩
theorem sb_of {e : Expr} {ir : Ex} (h : SE X w cl e ir) (he : ∀ whole, isTrue e X.env whole = (do let v ← whole; standAt e.pos; holding [v] (truthy v))) : SB X w cl e ir := ⟨h, st_of h he⟩
theorem se_var {i : Nat} {x : Str} {pos : Pos} (hN : X.N[i]? = some x) (hv : Vis X.env.scope x) (hd : (x == ("__debug__" : Str)) = false) (hcd : (x == ("__classdict__" : Str)) = false) : SB X w cl (.Name x pos) (.var i) := by
  refine sb_of (PE.imp (pe_var hN hv hd hcd) fun σ H Q ⟨m, σv, S, s, q⟩ => ?_) fun _ => rfl
  have q : Res X.K w m H σ (match σv[i]? with
    | some (some v) => Out.ok v S
    | _ => .bad) fun x S' => Post X.K m H x S' Q := q
  split at q
  · rename_i v hv
    obtain ⟨u, h1, h2⟩ := s.e.get i v hv
    exact ⟨u, h1, q m H u Ext.refl s.h h2⟩
  · exact q.elim
theorem se_const {v : V} {l : Lit} {e : Expr} (h : PE X e (tC v)) (r : ∀ K m H, R K m H l.vv v) (he : ∀ whole, isTrue e X.env whole = (do let v ← whole; standAt e.pos; holding [v] (truthy v))) : SB X w cl e (.lit l) :=
  sb_of (PE.imp h fun σ H Q ⟨m, σv, S, s, q⟩ => by
    have q : Post X.K m H l.vv S Q := q
    exact q m H v Ext.refl s.h (r _ _ _)) he
theorem se_bin {a b : Expr} {op : Operator} {o : Bop} {ia ib : Ex} {d : Bool} {pos : Pos} (ho : op = bopOp o) (ha : SE X w cl a ia) (hb : SE X w cl b ib) : SB X w cl (.BinOp a op b pos) (.bin d o ia ib) := by
  subst ho
  exact sb_of (PE.imp (pe_op (opr_bin o) ha hb) (rd_op2 (sd_bin X.K d o) (binG_noX d o))) fun _ => rfl
theorem se_neg {a : Expr} {ia : Ex} {pos : Pos} (ha : SE X w cl a ia) : SB X w cl (.UnaryOp .USub a pos) (.neg ia) :=
  sb_of (PE.imp (pe_un un_neg ha) (rd_op1 (sd_neg X.K) gNeg_noX)) fun _ => rfl
theorem se_no {a : Expr} {ia : Ex} {pos : Pos} (ha : SB X w cl a ia) : SB X w cl (.UnaryOp .Not a pos) (.no ia) := by
  refine ⟨PE.imp (pe_notT ha.v) fun σ H Q ⟨m, σv, S, s, q⟩ => ?_, PT.imp (pt_not ha.t) fun σ H Q ⟨m, σv, S, s, q⟩ => ?_⟩
  · have q : Res X.K w m H σ ((ev cl ia σv S).bind fun x s => lift ((trV s x).map fun b => VV.bl (!b)) s) fun x S' => Post X.K m H x S' Q := q
    refine rd_then s (q.bind.imp fun x S1 q1 m1 H1 v x1 s1 r1 => ?_)
    obtain ⟨b, S', e1, p⟩ := q1.ok (lift_noX _ _)
    obtain ⟨e2, rfl⟩ := lift_eq_ok e1
    obtain ⟨c, e3, rfl⟩ := Option.map_eq_some_iff.mp e2
    exact ⟨c, tru_of s1.h r1 e3, p m1 H1 _ x1 s1.h (.bl _)⟩
  · have q : Res X.K w m H σ (((ev cl ia σv S).bind fun x s => lift ((trV s x).map fun b => VV.bl (!b)) s).bind fun v s => lift (trV s v) s) fun x S' => PostB X.K m H x S' Q := q
    rw [Out.bind_assoc] at q
    refine rd_thenT s ?_
    unfold tst
    refine Res.of_bind (q.bind.imp fun x S1 q1 => ?_)
    cases e : trV S1 x with
    | none => rw [e] at q1; exact q1.elim
    | some b =>
      rw [e] at q1
      have q1 : PostB X.K m H (!b) S1 Q := q1
      exact fun m1 H1 x1 s1 => q1 m1 H1 x1 s1.h
theorem se_tup {es : List Expr} {irs : List Ex} {k : Nat} {pos : Pos} (h : SA X w cl es irs) : SB X w cl (.Tuple es k pos) (.tup irs) := by
  refine sb_of (PE.imp (pe_tup h) fun σ H Q ⟨m, σv, S, s, q⟩ => ?_) fun _ => rfl
  have q : Res X.K w m H σ ((evs cl irs σv S).bind fun vs s => mkT vs s) fun x S' => Post X.K m H x S' Q := q
  refine rd_thenA s (q.bind.imp fun x S1 q1 m1 H1 v x1 s1 r1 => ?_)
  obtain ⟨z, S', e1, p⟩ := q1.ok (mkT_noX _ _)
  exact post_mkT s1.h r1 e1 (p.ext x1)
theorem se_lst {es : List Expr} {irs : List Ex} {d : Bool} {pos : Pos} (h : SA X w cl es irs) : SB X w cl (.List es pos) (.lst d irs) := by
  refine sb_of (PE.imp (pe_lst h) fun σ H Q ⟨m, σv, S, s, q⟩ => ?_) fun _ => rfl
  have q : Res X.K w m H σ ((evs cl irs σv S).bind fun vs s => mkL d vs s) fun x S' => Post X.K m H x S' Q := q
  refine rd_thenA s (q.bind.imp fun x S1 q1 m1 H1 v x1 s1 r1 => ?_)
  obtain ⟨z, S', e1, p⟩ := q1.ok (mkL_noX _ _ _)
  exact post_mkL s1.h r1 e1 (p.ext x1)
def okSub : Expr → Bool
  | .Slice .. => false
  | _ => true
theorem plain_ix {b : Expr} (h : okSub b = true) : PlainIx b := by
  intro o i
  cases b <;> first | rfl | cases h
theorem se_idx {a b : Expr} {ia ib : Ex} {pos : Pos} (hu : X.A.units + 65 < cLine) (hs : okSub b = true) (ha : SE X w cl a ia) (hb : SE X w cl b ib) : SB X w cl (.Subscript a b pos) (.idx ia ib) :=
  sb_of (PE.imp (pe_ix (ix_all hu) ha hb (plain_ix hs)) (rd_op2 (sd_idx X.K) gIdx_noX)) fun _ => rfl
def SO (X : Cx) (w : Wish) (cl : Cl) (o : Option Expr) (ir : Ex) : Prop := match o with
  | none => ir = .lit .non
  | some e => SE X w cl e ir ∧ ir ≠ .lit .non
theorem so_rd {o : Option Expr} {ir : Ex} (h : SO X w cl o ir) : ∃ t, PO X o t ∧ ∀ m σv S σ H (Q : Option Int → Hp → Prop), Sit X.K m σv S σ H →
    Res X.K w m H σ (ev cl ir σv S) (fun x S1 => ∃ b, bndOf ir x = some b ∧ ∀ m' H', Ext m H m' H' → Sit X.K m' σv S1 σ H' → Q b H') → t σ H Q := by
  cases o with
  | none =>
    have h : ir = .lit .non := h
    subst h
    refine ⟨_, po_none, fun m σv S σ H Q s q => ?_⟩
    obtain ⟨b, e, k⟩ := q
    cases e
    exact k m H Ext.refl s
  | some e =>
    obtain ⟨h, hn⟩ : SE X w cl e ir ∧ ir ≠ .lit .non := h
    refine ⟨_, po_some h, fun m σv S σ H Q s q => ?_⟩
    refine ⟨m, σv, S, s, q.imp fun x S1 q1 m1 H1 v x1 h1 r1 => ?_⟩
    obtain ⟨b, e1, k⟩ := q1
    unfold bndOf at e1
    split at e1
    · exact absurd rfl hn
    · obtain ⟨i, e2, rfl⟩ := Option.map_eq_some_iff.mp e1
      have kk := k m1 H1 x1 (s.ext x1 h1)
      cases r1 <;> simp [intOf] at e2
      subst e2
      exact ⟨_, rfl, kk⟩
theorem se_sl {a : Expr} {lo hi : Option Expr} {ia il ih : Ex} {d : Bool} {p2 pos : Pos} (ha : SE X w cl a ia) (hl : SO X w cl lo il) (hh : SO X w cl hi ih) : SB X w cl (.Subscript a (.Slice lo hi none p2) pos) (.sl d ia il ih) := by
  obtain ⟨tl, pl, kl⟩ := so_rd hl
  obtain ⟨th, ph, kh⟩ := so_rd hh
  refine sb_of (PE.imp (pe_slice slr_seq ha pl ph) fun σ H Q ⟨m, σv, S, s, q⟩ => ?_) fun _ => rfl
  have q : Res X.K w m H σ ((ev cl ia σv S).bind fun x s => (ev cl il σv s).bind fun l s => (lift (bndOf il l) s).bind fun l s =>
      (ev cl ih σv s).bind fun u s => (lift (bndOf ih u) s).bind fun u s => gSl d x l u s) fun x S' => Post X.K m H x S' Q := q
  refine rd_then s (q.bind.imp fun x S1 q1 m1 H1 v x1 s1 r1 => kl m1 σv S1 σ H1 _ s1 ((q1.bind.ext x1).imp fun l S2 q2 => ?_))
  obtain ⟨lb, S2', e1, q3⟩ := q2.bind.ok (lift_noX _ _)
  obtain ⟨el, rfl⟩ := lift_eq_ok e1
  refine ⟨lb, el, fun m2 H2 x2 s2 => kh m2 σv S2' σ H2 _ s2 (((q3.bind.ext x1).ext x2).imp fun u S3 q4 => ?_)⟩
  obtain ⟨ub, S3', e2, q5⟩ := q4.bind.ok (lift_noX _ _)
  obtain ⟨eu, rfl⟩ := lift_eq_ok e2
  refine ⟨ub, eu, fun m3 H3 x3 s3 => ?_⟩
  obtain ⟨z, S', e3, p⟩ := q5.ok (gSl_noX _ _ _ _ _)
  exact sd_sl s3.h ((r1.ext x2).ext x3) e3 (((p.ext x1).ext x2).ext x3)
theorem cmp_test {K : PySem.W.Frag} {m : Mp} {H : Hp} {σ : L2.St} {o : Cop} {x y : VV} {S2 : Hs} {Q : Bool → Hp → Prop}
    (q : Res K w m H σ ((gCmp o x y S2).bind fun v s => lift (trV s v) s) fun b S' => PostB K m H b S' Q) : ∃ z S', gCmp o x y S2 = .ok z S' ∧ Post K m H z S' fun x H' => ∃ k, x = .bl k ∧ Q k H' := by
  unfold gCmp at q ⊢
  cases e : cmpV S2 o x y with
  | none => rw [e] at q; exact q.elim
  | some b =>
    rw [e] at q
    have q : PostB K m H b S2 Q := q
    exact ⟨.bl b, S2, rfl, fun m1 H1 v x1 h1 r1 => by cases r1; exact ⟨b, rfl, q m1 H1 x1 h1⟩⟩
theorem se_cmp {a b : Expr} {op : CmpOp} {o : Cop} {ia ib : Ex} {pos : Pos} (hu : X.A.units + 65 < cLine) (ho : op = copOp o) (hm : behindInMarks op b = false) (ha : SE X w cl a ia) (hb : SE X w cl b ib) : SB X w cl (.Compare a [op] [b] pos) (.cmp o ia ib) := by
  subst ho
  refine ⟨PE.imp (pe_cmpR (opr_cmp hu o) ha hb hm) (rd_op2 (sd_cmp X.K o) (gCmp_noX o)), PT.imp (pt_cmpR (opr_cmp hu o) ha hb hm) fun σ H Q ⟨m, σv, S, s, q⟩ => ?_⟩
  refine rd_op2k (sd_cmp X.K o) (g' := fun x y s => (gCmp o x y s).bind fun v s => lift (trV s v) s) s ?_ fun x y S2 q => cmp_test q
  have q : Res X.K w m H σ (((ev cl ia σv S).bind fun x s => (ev cl ib σv s).bind fun y s => gCmp o x y s).bind fun v s => lift (trV s v) s) fun x S' => PostB X.K m H x S' Q := q
  simp only [Out.bind_assoc] at q
  exact q
def tChain3 (r r' r'' : R2) (ta tb tc td : TE) : TE := fun σ H Q => ta σ H fun x H1 => tb σ H1 fun y H2 => r x y H2 fun z H3 => ∃ k, z = .bl k ∧
  (if k = true then tc σ H3 fun w H4 => r' y w H4 fun z2 H5 => ∃ k2, z2 = .bl k2 ∧ (if k2 = true then td σ H5 fun u H6 => r'' w u H6 Q else Q (.bl false) H5) else Q (.bl false) H3)
theorem pe_chain3 {a b c d : Expr} {ta tb tc td : TE} {pos : Pos} {op op' op'' : CmpOp} {r r' r'' : R2} (ho : OpR X (compareOp op) r) (ho' : OpR X (compareOp op') r') (ho'' : OpR X (compareOp op'') r'') (ha : PE X a ta) (hb : PE X b tb) (hc : PE X c tc) (hd : PE X d td)
    (hm : lastMarks [op, op', op''] [b, c, d] = false) : PE X (.Compare a [op, op', op''] [b, c, d] pos) (tChain3 r r' r'' ta tb tc td) := by
  refine ⟨fun pins s σ H Q I h => ?_⟩
  refine Compare_chain (thn (ha.run pins s σ H _ I h) fun v s1 ⟨x, H1, I1, r1, q1⟩ => chain_link (thn (hb.run pins s1 σ H1 _ I1 q1) fun u s2 ⟨y, H2, I2, r2, q2⟩ =>
    thn (ho pins s2 σ H2 x y v u _ I2 r1 r2 q2) fun d s3 ⟨z, H3, I3, r3, k, e, q3⟩ => ?_)) hm
  subst e
  cases r3
  refine wpAny_truthy_bool ?_
  cases k with
  | false => exact ite_ff ⟨.bl false, H3, I3, rfl, q3⟩
  | true =>
    refine ite_tt (chain_link (thn (hc.run pins s3 σ H3 _ I3 q3) fun w' s4 ⟨z', H4, I4, r4, q4⟩ => thn (ho' pins s4 σ H4 y z' u w' _ I4 r2 r4 q4) fun d' s5 ⟨z2, H5, I5, r5, k2, e2, q5⟩ => ?_))
    subst e2
    cases r5
    refine wpAny_truthy_bool ?_
    cases k2 with
    | false => exact ite_ff ⟨.bl false, H5, I5, rfl, q5⟩
    | true => exact ite_tt (chain_last (thn (hd.run pins s5 σ H5 _ I5 q5) fun w2 s6 ⟨z3, H6, I6, r6, q6⟩ => ho'' pins s6 σ H6 z' z3 w' w2 Q I6 r4 r6 q6))
theorem pt_chain3 {a b c d : Expr} {ta tb tc td : TE} {pos : Pos} {op op' op'' : CmpOp} {r r' r'' : R2} (ho : OpR X (compareOp op) r) (ho' : OpR X (compareOp op') r') (ho'' : OpR X (compareOp op'') r'') (ha : PE X a ta) (hb : PE X b tb) (hc : PE X c tc) (hd : PE X d td)
    (hm : lastMarks [op, op', op''] [b, c, d] = false) : PT X (.Compare a [op, op', op''] [b, c, d] pos) (tTest (tChain3 r r' r'' ta tb tc td)) := by
  refine ⟨fun pins s σ H Q I h => ?_⟩
  refine isTrue_chain (thn (ha.run pins s σ H _ I h) fun v s1 ⟨x, H1, I1, r1, q1⟩ => test_link (thn (hb.run pins s1 σ H1 _ I1 q1) fun u s2 ⟨y, H2, I2, r2, q2⟩ =>
    thn (ho pins s2 σ H2 x y v u _ I2 r1 r2 q2) fun d s3 ⟨z, H3, I3, r3, k, e, q3⟩ => ?_)) hm
  subst e
  cases r3
  refine wpAny_truthy_bool ?_
  cases k with
  | false =>
    obtain ⟨k', e', q'⟩ := q3
    cases e'
    exact ite_ff ⟨H3, I3, q'⟩
  | true =>
    refine ite_tt (test_link (thn (hc.run pins s3 σ H3 _ I3 q3) fun w' s4 ⟨z', H4, I4, r4, q4⟩ => thn (ho' pins s4 σ H4 y z' u w' _ I4 r2 r4 q4) fun d' s5 ⟨z2, H5, I5, r5, k2, e2, q5⟩ => ?_))
    subst e2
    cases r5
    refine wpAny_truthy_bool ?_
    cases k2 with
    | false =>
      obtain ⟨k', e', q'⟩ := q5
      cases e'
      exact ite_ff ⟨H5, I5, q'⟩
    | true =>
      refine ite_tt (test_last (thn (hd.run pins s5 σ H5 _ I5 q5) fun w2 s6 ⟨z3, H6, I6, r6, q6⟩ => thn (ho'' pins s6 σ H6 z' z3 w' w2 _ I6 r4 r6 q6) fun d2 s7 ⟨z4, H7, I7, r7, k3, e3, q7⟩ => ?_))
      subst e3
      cases r7
      exact wpAny_truthy_bool ⟨H7, I7, q7⟩
theorem se_chain3 {a b c d : Expr} {op op' op'' : CmpOp} {o o' o'' : Cop} {ia ib ic id : Ex} {pos : Pos} (hu : X.A.units + 65 < cLine) (ho : op = copOp o) (ho' : op' = copOp o') (ho'' : op'' = copOp o'') (hm : lastMarks [op, op', op''] [b, c, d] = false) (ha : SE X w cl a ia) (hb : SE X w cl b ib) (hc : SE X w cl c ic) (hd : SE X w cl d id) :
    SB X w cl (.Compare a [op, op', op''] [b, c, d] pos) (.chain3 o o' o'' ia ib ic id) := by
  subst ho
  subst ho'
  subst ho''
  have core : ∀ {σ : L2.St} {H : Hp} {Q : VK} {m : Mp} {σv : Sv} {S : Hs} {α : Type} {fin : VV → Hs → Out α} {kk : α → Hs → Prop} (s : Sit X.K m σv S σ H)
      (q : Res X.K w m H σ ((ev cl ia σv S).bind fun x s => (ev cl ib σv s).bind fun y s => (lift (cmpV s o x y) s).bind fun t s => (if t then (ev cl ic σv s).bind fun z s => (lift (cmpV s o' y z) s).bind fun t s => if t then (ev cl id σv s).bind fun u s => gCmp o'' z u s else .ok (.bl false) s else .ok (.bl false) s).bind fin) kk)
      (cv : ∀ (t : Bool) S2, Res X.K w m H σ (fin (.bl t) S2) kk → ∀ m2 H2, Ext m H m2 H2 → SimH X.K m2 H2 S2 → Q (.bl t) H2), tChain3 (rCmp X.K o) (rCmp X.K o') (rCmp X.K o'') (rdE X.K w (ev cl ia)) (rdE X.K w (ev cl ib)) (rdE X.K w (ev cl ic)) (rdE X.K w (ev cl id)) σ H Q := by
    intro σ H Q m σv S α fin kk s q cv
    refine rd_then s (q.bind.imp fun x S1 q1 m1 H1 v x1 s1 r1 => rd_then s1 ((q1.bind.ext x1).imp fun y S2 q2 m2 H2 u x2 s2 r2 => ?_))
    obtain ⟨t, S3, e1, q3⟩ := q2.bind.ok (lift_noX _ _)
    obtain ⟨e2, rfl⟩ := lift_eq_ok e1
    refine sd_cmp X.K o m2 H2 S3 x y v u (.bl t) S3 _ s2.h (r1.ext x2) r2 (by unfold gCmp; rw [e2]; rfl) fun m3 H3 z x3 h3 r3 => ?_
    cases r3
    refine ⟨t, rfl, ?_⟩
    cases t with
    | false => exact cv false S3 q3 m3 H3 ((x1.trans x2).trans x3) h3
    | true =>
      have q3 : Res X.K w m H σ (((ev cl ic σv S3).bind fun z s => (lift (cmpV s o' y z) s).bind fun t s => if t then (ev cl id σv s).bind fun u s => gCmp o'' z u s else .ok (.bl false) s).bind fin) kk := q3
      simp only [Out.bind_assoc] at q3
      refine rd_then (s2.ext x3 h3) (((q3.bind.ext x1).ext x2).ext x3 |>.imp fun z S4 q4 m4 H4 u4 x4 s4 r4 => ?_)
      obtain ⟨t2, S5, e5, q5⟩ := q4.bind.ok (lift_noX _ _)
      obtain ⟨e6, rfl⟩ := lift_eq_ok e5
      refine sd_cmp X.K o' m4 H4 S5 y z u u4 (.bl t2) S5 _ s4.h ((r2.ext x3).ext x4) r4 (by unfold gCmp; rw [e6]; rfl) fun m5 H5 z5 x5 h5 r5 => ?_
      cases r5
      refine ⟨t2, rfl, ?_⟩
      have xx := (((x1.trans x2).trans x3).trans x4).trans x5
      cases t2 with
      | false => exact cv false S5 q5 m5 H5 xx h5
      | true =>
        have q5 : Res X.K w m H σ (((ev cl id σv S5).bind fun u s => gCmp o'' z u s).bind fin) kk := q5
        rw [Out.bind_assoc] at q5
        refine rd_then (s4.ext x5 h5) ((q5.bind.ext xx).imp fun u5 S6 q6 m6 H6 u6 x6 s6 r6 => ?_)
        have q7 := q6.bind
        cases e7 : cmpV S6 o'' z u5 with
        | none => unfold gCmp at q7; rw [e7] at q7; exact q7.elim
        | some b =>
          unfold gCmp at q7
          rw [e7] at q7
          refine sd_cmp X.K o'' m6 H6 S6 z u5 u4 u6 (.bl b) S6 _ s6.h ((r4.ext x5).ext x6) r6 (by unfold gCmp; rw [e7]; rfl) fun m7 H7 z7 x7 h7 r7 => ?_
          cases r7
          exact cv b S6 q7 m7 H7 ((xx.trans x6).trans x7) h7
  refine ⟨PE.imp (pe_chain3 (opr_cmp hu o) (opr_cmp hu o') (opr_cmp hu o'') ha hb hc hd hm) fun σ H Q ⟨m, σv, S, s, q⟩ => ?_, PT.imp (pt_chain3 (opr_cmp hu o) (opr_cmp hu o') (opr_cmp hu o'') ha hb hc hd hm) fun σ H Q ⟨m, σv, S, s, q⟩ => ?_⟩
  · refine core (fin := fun v s => .ok v s) (kk := fun x S' => Post X.K m H x S' Q) s ?_ fun t S2 q m2 H2 x2 h2 => ?_
    · have q : Res X.K w m H σ (ev cl (.chain3 o o' o'' ia ib ic id) σv S) _ := q
      simp only [ev] at q
      refine q.bind.imp (fun x S1 q1 => q1.bind.imp fun y S2 q2 => q2.bind.imp fun t S3 q3 => ?_) |> fun z => Res.of_bind (z.imp fun x S1 z1 => Res.of_bind (z1.imp fun y S2 z2 => Res.of_bind z2))
      refine Res.of_bind (q3.imp fun v S4 q4 => q4)
    · have q : Post X.K m H (.bl t) S2 Q := q
      exact q m2 H2 _ x2 h2 (.bl t)
  · refine core (Q := fun x H' => ∃ k, x = .bl k ∧ Q k H') (fin := fun v s => lift (trV s v) s) (kk := fun x S' => PostB X.K m H x S' Q) s ?_ fun t S2 q m2 H2 x2 h2 => ?_
    · have q : Res X.K w m H σ ((ev cl (.chain3 o o' o'' ia ib ic id) σv S).bind fun v s => lift (trV s v) s) _ := q
      simp only [ev, Out.bind_assoc] at q
      exact q
    · have q : PostB X.K m H t S2 Q := q
      exact ⟨t, rfl, q m2 H2 x2 h2⟩
theorem se_chain {a b c : Expr} {op op' : CmpOp} {o o' : Cop} {ia ib ic : Ex} {pos : Pos} (hu : X.A.units + 65 < cLine) (ho : op = copOp o) (ho' : op' = copOp o') (hm : lastMarks [op, op'] [b, c] = false) (ha : SE X w cl a ia) (hb : SE X w cl b ib) (hc : SE X w cl c ic) :
    SB X w cl (.Compare a [op, op'] [b, c] pos) (.chain o o' ia ib ic) := by
  subst ho
  subst ho'
  have core : ∀ {σ : L2.St} {H : Hp} {Q : VK} {m : Mp} {σv : Sv} {S : Hs} {α : Type} {fin : VV → Hs → Out α} {kk : α → Hs → Prop} (s : Sit X.K m σv S σ H)
      (q : Res X.K w m H σ ((ev cl ia σv S).bind fun x s => (ev cl ib σv s).bind fun y s => (lift (cmpV s o x y) s).bind fun t s => (if t then (ev cl ic σv s).bind fun z s => gCmp o' y z s else .ok (.bl false) s).bind fin) kk)
      (cv : ∀ (t : Bool) S2, Res X.K w m H σ (fin (.bl t) S2) kk → ∀ m2 H2, Ext m H m2 H2 → SimH X.K m2 H2 S2 → Q (.bl t) H2), tChain (rCmp X.K o) (rCmp X.K o') (rdE X.K w (ev cl ia)) (rdE X.K w (ev cl ib)) (rdE X.K w (ev cl ic)) σ H Q := by
    intro σ H Q m σv S α fin kk s q cv
    refine rd_then s (q.bind.imp fun x S1 q1 m1 H1 v x1 s1 r1 => rd_then s1 ((q1.bind.ext x1).imp fun y S2 q2 m2 H2 u x2 s2 r2 => ?_))
    obtain ⟨t, S3, e1, q3⟩ := q2.bind.ok (lift_noX _ _)
    obtain ⟨e2, rfl⟩ := lift_eq_ok e1
    refine sd_cmp X.K o m2 H2 S3 x y v u (.bl t) S3 _ s2.h (r1.ext x2) r2 (by unfold gCmp; rw [e2]; rfl) fun m3 H3 z x3 h3 r3 => ?_
    cases r3
    refine ⟨t, rfl, ?_⟩
    cases t with
    | false => exact cv false S3 q3 m3 H3 ((x1.trans x2).trans x3) h3
    | true =>
      have q3 : Res X.K w m H σ (((ev cl ic σv S3).bind fun z s => gCmp o' y z s).bind fin) kk := q3
      rw [Out.bind_assoc] at q3
      refine rd_then (s2.ext x3 h3) (((q3.bind.ext x1).ext x2).ext x3 |>.imp fun z S4 q4 m4 H4 u4 x4 s4 r4 => ?_)
      have q5 := q4.bind
      cases e5 : cmpV S4 o' y z with
      | none => unfold gCmp at q5; rw [e5] at q5; exact q5.elim
      | some b =>
        unfold gCmp at q5
        rw [e5] at q5
        refine sd_cmp X.K o' m4 H4 S4 y z u u4 (.bl b) S4 _ s4.h ((r2.ext x3).ext x4) r4 (by unfold gCmp; rw [e5]; rfl) fun m5 H5 z5 x5 h5 r5 => ?_
        cases r5
        exact cv b S4 q5 m5 H5 ((((x1.trans x2).trans x3).trans x4).trans x5) h5
  refine ⟨PE.imp (pe_chain (opr_cmp hu o) (opr_cmp hu o') ha hb hc hm) fun σ H Q ⟨m, σv, S, s, q⟩ => ?_, PT.imp (pt_chain (opr_cmp hu o) (opr_cmp hu o') ha hb hc hm) fun σ H Q ⟨m, σv, S, s, q⟩ => ?_⟩
  · refine core (fin := fun v s => .ok v s) (kk := fun x S' => Post X.K m H x S' Q) s ?_ fun t S2 q m2 H2 x2 h2 => ?_
    · have q : Res X.K w m H σ (ev cl (.chain o o' ia ib ic) σv S) _ := q
      simp only [ev] at q
      refine q.bind.imp (fun x S1 q1 => q1.bind.imp fun y S2 q2 => q2.bind.imp fun t S3 q3 => ?_) |> fun z => Res.of_bind (z.imp fun x S1 z1 => Res.of_bind (z1.imp fun y S2 z2 => Res.of_bind z2))
      refine Res.of_bind (q3.imp fun v S4 q4 => q4)
    · have q : Post X.K m H (.bl t) S2 Q := q
      exact q m2 H2 _ x2 h2 (.bl t)
  · refine core (Q := fun x H' => ∃ k, x = .bl k ∧ Q k H') (fin := fun v s => lift (trV s v) s) (kk := fun x S' => PostB X.K m H x S' Q) s ?_ fun t S2 q m2 H2 x2 h2 => ?_
    · have q : Res X.K w m H σ ((ev cl (.chain o o' ia ib ic) σv S).bind fun v s => lift (trV s v) s) _ := q
      simp only [ev, Out.bind_assoc] at q
      exact q
    · have q : PostB X.K m H t S2 Q := q
      exact ⟨t, rfl, q m2 H2 x2 h2⟩
inductive All2 (P : Expr → Ex → Prop) : List Expr → List Ex → Prop
  | nil : All2 P [] []
  | cons {e : Expr} {ir : Ex} {es : List Expr} {irs : List Ex} : P e ir → All2 P es irs → All2 P (e :: es) (ir :: irs)
theorem ite_B {α : Type} {b : Bool} {x y : Out α} {K : PySem.W.Frag} {m : Mp} {H : Hp} {σ : L2.St} {k : α → Hs → Prop} (q : Res K w m H σ (if b = true then x else y) k) : (b = true ∧ Res K w m H σ x k) ∨ (b = false ∧ Res K w m H σ y k) := by
  cases b
  · exact .inr ⟨rfl, q⟩
  · exact .inl ⟨rfl, q⟩
theorem and_ok {pos : Pos} : ∀ {es : List Expr} {irs : List Ex}, All2 (SB X w cl) es irs → es ≠ [] →
    PE X (.BoolOp .And es pos) (rdE X.K w (evAnd cl irs)) ∧ PW X (.BoolOp .And es pos) (rdT X.K w fun σ s => (evAnd cl irs σ s).bind fun v s => lift (trV s v) s)
  | [], _, _, h => absurd rfl h
  | [e], _, .cons h .nil, _ => ⟨PE.imp (pe_one h.v) fun σ H Q q => q, ⟨fun wh pins s σ H Q I q => (pw_and1 h.t).run wh pins s σ H Q I q⟩⟩
  | e :: e2 :: es, ir :: ir2 :: irs, .cons h t, _ => by
    obtain ⟨h1, h2⟩ := and_ok (pos := pos) t (by simp)
    refine ⟨PE.imp (pe_andT h.v h1) fun σ H Q ⟨m, σv, S, s, q⟩ => ?_, ⟨fun wh pins s σ H Q I q => (pw_and h.t h2).run wh pins s σ H Q I ?_⟩⟩
    · have q : Res X.K w m H σ ((ev cl ir σv S).bind fun v s => (lift (trV s v) s).bind fun t s => if t then evAnd cl (ir2 :: irs) σv s else .ok v s) _ := q
      refine rd_then s (q.bind.imp fun x S1 q1 m1 H1 v x1 s1 r1 => ?_)
      obtain ⟨b, S2, e1, q2⟩ := q1.bind.ok (lift_noX _ _)
      obtain ⟨e3, rfl⟩ := lift_eq_ok e1
      refine ⟨b, tru_of s1.h r1 e3, ?_⟩
      rcases ite_B q2 with ⟨rfl, q3⟩ | ⟨rfl, q3⟩
      · exact ⟨m1, σv, S2, s1, (q3.ext x1).imp fun z S3 p => Post.ext x1 p⟩
      · have q3 : Post X.K m H x S2 Q := q3
        exact q3 m1 H1 v x1 s1.h r1
    · obtain ⟨m, σv, S, s, q⟩ := q
      have q : Res X.K w m H σ (((ev cl ir σv S).bind fun v s => (lift (trV s v) s).bind fun t s => if t then evAnd cl (ir2 :: irs) σv s else .ok v s).bind fun v s => lift (trV s v) s) _ := q
      rw [Out.bind_assoc] at q
      refine rd_thenT s ?_
      unfold tst
      refine Res.of_bind (q.bind.imp fun x S1 q1 => ?_)
      rw [Out.bind_assoc] at q1
      obtain ⟨b, S2, e1, q2⟩ := q1.bind.ok (lift_noX _ _)
      obtain ⟨e3, rfl⟩ := lift_eq_ok e1
      rw [e3]
      intro m1 H1 x1 s1
      cases b with
      | true =>
        exact ⟨m1, σv, S2, s1, (q2.ext x1).imp fun z S3 p => PostB.ext x1 p⟩
      | false =>
        have q2 : Res X.K w m H σ (lift (trV S2 x) S2) fun x S' => PostB X.K m H x S' Q := q2
        rw [e3] at q2
        have q2 : PostB X.K m H false S2 Q := q2
        exact q2 m1 H1 x1 s1.h
theorem or_ok {pos : Pos} : ∀ {es : List Expr} {irs : List Ex}, All2 (SB X w cl) es irs → es ≠ [] →
    PE X (.BoolOp .Or es pos) (rdE X.K w (evOr cl irs)) ∧ PW X (.BoolOp .Or es pos) (rdT X.K w fun σ s => (evOr cl irs σ s).bind fun v s => lift (trV s v) s)
  | [], _, _, h => absurd rfl h
  | [e], _, .cons h .nil, _ => ⟨PE.imp (pe_one h.v) fun σ H Q q => q, ⟨fun wh pins s σ H Q I q => (pw_or1 h.t).run wh pins s σ H Q I q⟩⟩
  | e :: e2 :: es, ir :: ir2 :: irs, .cons h t, _ => by
    obtain ⟨h1, h2⟩ := or_ok (pos := pos) t (by simp)
    refine ⟨PE.imp (pe_orT h.v h1) fun σ H Q ⟨m, σv, S, s, q⟩ => ?_, ⟨fun wh pins s σ H Q I q => (pw_or h.t h2).run wh pins s σ H Q I ?_⟩⟩
    · have q : Res X.K w m H σ ((ev cl ir σv S).bind fun v s => (lift (trV s v) s).bind fun t s => if t then .ok v s else evOr cl (ir2 :: irs) σv s) _ := q
      refine rd_then s (q.bind.imp fun x S1 q1 m1 H1 v x1 s1 r1 => ?_)
      obtain ⟨b, S2, e1, q2⟩ := q1.bind.ok (lift_noX _ _)
      obtain ⟨e3, rfl⟩ := lift_eq_ok e1
      refine ⟨b, tru_of s1.h r1 e3, ?_⟩
      rcases ite_B q2 with ⟨rfl, q3⟩ | ⟨rfl, q3⟩
      · have q3 : Post X.K m H x S2 Q := q3
        exact q3 m1 H1 v x1 s1.h r1
      · exact ⟨m1, σv, S2, s1, (q3.ext x1).imp fun z S3 p => Post.ext x1 p⟩
    · obtain ⟨m, σv, S, s, q⟩ := q
      have q : Res X.K w m H σ (((ev cl ir σv S).bind fun v s => (lift (trV s v) s).bind fun t s => if t then .ok v s else evOr cl (ir2 :: irs) σv s).bind fun v s => lift (trV s v) s) _ := q
      rw [Out.bind_assoc] at q
      refine rd_thenT s ?_
      unfold tst
      refine Res.of_bind (q.bind.imp fun x S1 q1 => ?_)
      rw [Out.bind_assoc] at q1
      obtain ⟨b, S2, e1, q2⟩ := q1.bind.ok (lift_noX _ _)
      obtain ⟨e3, rfl⟩ := lift_eq_ok e1
      rw [e3]
      intro m1 H1 x1 s1
      cases b with
      | false =>
        exact ⟨m1, σv, S2, s1, (q2.ext x1).imp fun z S3 p => PostB.ext x1 p⟩
      | true =>
        have q2 : Res X.K w m H σ (lift (trV S2 x) S2) fun x S' => PostB X.K m H x S' Q := q2
        rw [e3] at q2
        have q2 : PostB X.K m H true S2 Q := q2
        exact q2 m1 H1 x1 s1.h
theorem se_and {es : List Expr} {irs : List Ex} {pos : Pos} (h : All2 (SB X w cl) es irs) (hn : es ≠ []) : SB X w cl (.BoolOp .And es pos) (.conj irs) :=
  let ⟨a, b⟩ := and_ok (pos := pos) h hn
  ⟨a, b.pt⟩
theorem se_or {es : List Expr} {irs : List Ex} {pos : Pos} (h : All2 (SB X w cl) es irs) (hn : es ≠ []) : SB X w cl (.BoolOp .Or es pos) (.disj irs) :=
  let ⟨a, b⟩ := or_ok (pos := pos) h hn
  ⟨a, b.pt⟩
theorem pt_ite {c a b : Expr} {tc ta tb : TT} {pos : Pos} (hc : PT X c tc) (ha : PT X a ta) (hb : PT X b tb) : PT X (.IfExp c a b pos) (fun σ H Q => tc σ H fun k H1 => if k = true then ta σ H1 Q else tb σ H1 Q) := by
  refine ⟨fun pins s σ H Q I h => isTrue_IfExp (thn (hc.run pins s σ H _ I h) fun k s1 ⟨H1, I1, q1⟩ => ?_)⟩
  cases k with
  | true => exact ha.run pins s1 σ H1 Q I1 q1
  | false => exact hb.run pins s1 σ H1 Q I1 q1
theorem se_ite {c a b : Expr} {ic ia ib : Ex} {pos : Pos} (hc : SB X w cl c ic) (ha : SB X w cl a ia) (hb : SB X w cl b ib) : SB X w cl (.IfExp c a b pos) (.ite ic ia ib) := by
  refine ⟨PE.imp (pe_ifExp hc.t ha.v hb.v) fun σ H Q ⟨m, σv, S, s, q⟩ => ?_, PT.imp (pt_ite hc.t ha.t hb.t) fun σ H Q ⟨m, σv, S, s, q⟩ => ?_⟩
  · have q : Res X.K w m H σ ((ev cl ic σv S).bind fun x s => (lift (trV s x) s).bind fun t s => if t then ev cl ia σv s else ev cl ib σv s) fun x S' => Post X.K m H x S' Q := q
    refine rd_thenT s ?_
    unfold tst
    refine Res.of_bind (q.bind.imp fun x S1 q1 => q1.bind.imp fun t S2 q2 m1 H1 x1 s1 => ?_)
    cases t with
    | true => exact ⟨m1, σv, S2, s1, (q2.ext x1).imp fun z S3 p => Post.ext x1 p⟩
    | false => exact ⟨m1, σv, S2, s1, (q2.ext x1).imp fun z S3 p => Post.ext x1 p⟩
  · have q : Res X.K w m H σ (((ev cl ic σv S).bind fun x s => (lift (trV s x) s).bind fun t s => if t then ev cl ia σv s else ev cl ib σv s).bind fun v s => lift (trV s v) s) fun x S' => PostB X.K m H x S' Q := q
    rw [Out.bind_assoc] at q
    refine rd_thenT s ?_
    unfold tst
    refine Res.of_bind (q.bind.imp fun x S1 q1 => ?_)
    rw [Out.bind_assoc] at q1
    refine q1.bind.imp fun t S2 q2 m1 H1 x1 s1 => ?_
    cases t with
    | true => exact ⟨m1, σv, S2, s1, (q2.ext x1).imp fun z S3 p => PostB.ext x1 p⟩
    | false => exact ⟨m1, σv, S2, s1, (q2.ext x1).imp fun z S3 p => PostB.ext x1 p⟩
theorem bi_call {x : Str} {b : Bi} {es : List Expr} {e : Expr} {irs : List Ex} {d : Bool} {p pos : Pos} (xr : XRoom X) (hb : biPlain b = true) (hg : Gl X x) (hm : X.mg x = none) (hv : bootBuiltins x = some (biVal b)) (hn : x ≠ "__name__") (hd : (x == ("__debug__" : Str)) = false)
    (hs : ∀ e' ∈ e :: es, notStar e' = true) (ha : SA X w cl (e :: es) irs) : SB X w cl (.Call (.Name x p) (e :: es) [] pos) (.bi d b irs) := by
  obtain ⟨r, h1, h2⟩ := bi_ok xr b hb d
  have h3 : ∀ σ H Q, rdE X.K w (ev cl (.bi d b irs)) σ H Q → tCB r (rdA X.K w (evs cl irs)) σ H Q := rd_opL h2 (biV_noX d b)
  have hs1 := star_cons (env := X.env) (es := es) (hs e List.mem_cons_self)
  have hs2 := star_plain (env := X.env) (pos := pos) fun e' he => hs e' (List.mem_cons_of_mem _ he)
  cases b <;> try (exact absurd hb Bool.false_ne_true)
  all_goals first
    | exact sb_of (PE.imp (pe_callB h1 hg hm hv ha hn hd hs1 hs2) h3) fun _ => rfl
    | exact sb_of (PE.imp (pe_callTy h1 hg hm hv ha hn hd hs1 hs2) h3) fun _ => rfl
end
end Tw
set_option Elab.async false
set_option linter.all false
set_option autoImplicit false
set_option maxRecDepth 100000
namespace Tw
open PySem PySem.Spec PyProof.Rows L2
def tyName : Ty → String
  | .int => "int"
  | .bool => "bool"
  | .str => "str"
  | .tuple => "tuple"
  | .list => "list"
  | .own _ => ""
def tyPlain : Ty → Bool
  | .own _ => false
  | _ => true
def isN (a : String) : Ty → Bool
  | .int => a == "int" || a == "bool"
  | .bool => a == "bool"
  | .str => a == "str"
  | .tuple => a == "tuple"
  | .list => a == "list"
  | .own _ => false
theorem kit_tab : (["NoneType", "bool", "int", "str", "tuple", "list"].all fun a => [Ty.int, .bool, .str, .tuple, .list].all fun t => kitB a (tyName t) == some (isN a t)) = true := by decide +kernel
theorem boot_tab : ([Ty.int, .bool, .str, .tuple, .list].all fun t => bootBuiltins (Str.ofString (tyName t)) == some (.type (tyName t)) && decide (Str.ofString (tyName t) ≠ "__name__") && (Str.ofString (tyName t) == ("__debug__" : Str)) == false) = true := by decide +kernel
theorem kit_at {a : String} {t : Ty} (ha : a ∈ ["NoneType", "bool", "int", "str", "tuple", "list"]) (ht : tyPlain t = true) : kitB a (tyName t) = some (isN a t) := by
  have h1 := List.all_eq_true.mp kit_tab a ha
  have h2 := List.all_eq_true.mp h1 t (by cases t <;> first | (simp; done) | exact absurd ht Bool.false_ne_true)
  exact beq_iff_eq.mp h2
theorem boot_at {t : Ty} (ht : tyPlain t = true) : bootBuiltins (Str.ofString (tyName t)) = some (.type (tyName t)) ∧ Str.ofString (tyName t) ≠ "__name__" ∧ (Str.ofString (tyName t) == ("__debug__" : Str)) = false := by
  have h2 := List.all_eq_true.mp boot_tab t (by cases t <;> first | (simp; done) | exact absurd ht Bool.false_ne_true)
  rw [Bool.and_eq_true, Bool.and_eq_true] at h2
  exact ⟨beq_iff_eq.mp h2.1.1, of_decide_eq_true h2.1.2, beq_iff_eq.mp h2.2⟩
section
variable {X : Cx} {w : Wish} {cl : Cl}
theorem ty_of {K : PySem.W.Frag} {m : Mp} {H : Hp} {S : Hs} {x : VV} {v : V} {a : String} (h : SimH K m H S) (r : R K m H x v) (e : vTy S x = some a) : TyX K H v (.type a) ∧ a ∈ ["NoneType", "bool", "int", "str", "tuple", "list"] ∧ ∀ t, tyPlain t = true → isTy S x t = isN a t := by
  cases r with
  | non => cases e; exact ⟨.base .non, by simp, fun t ht => by cases t <;> first | rfl | cases ht⟩
  | bl b => cases e; exact ⟨.base (.bl b), by simp, fun t ht => by cases t <;> first | rfl | cases ht⟩
  | int i => cases e; exact ⟨.base (.int i), by simp, fun t ht => by cases t <;> first | rfl | cases ht⟩
  | str y => cases e; exact ⟨.base (.str y), by simp, fun t ht => by cases t <;> first | rfl | cases ht⟩
  | tup f t =>
    cases e
    refine ⟨?_, by simp, fun t ht => by cases t <;> first | rfl | cases ht⟩
    rcases f with ⟨f | ⟨o, f⟩, _⟩ | (f | ⟨o, f⟩) | ⟨o, its, n, hk, hc, _⟩
    · exact .base (.tup f)
    · exact .fTuple f
    · cases f
    · cases f
    · exact .kTuple hk hc
  | lst f t =>
    cases e
    exact ⟨.base (.lst f.1), by simp, fun t ht => by cases t <;> first | rfl | cases ht⟩
  | scr f t => cases e
  | @ref k a hk =>
    have e' : (if (kid S k).isSome = true then some "list" else none) = some _ := e
    split at e'
    · rename_i hs
      cases e'
      obtain ⟨xs, hx⟩ := Option.isSome_iff_exists.mp hs
      obtain ⟨ys, h1, _⟩ := h.list hk hx
      refine ⟨.base (.lst h1), by simp, fun t ht => ?_⟩
      cases t <;> first | rfl | (show (kid S k).isSome = _; rw [hx]; rfl) | cases ht
    · cases e'
  | dct _ _ _ _ => cases e
  | exc _ _ _ _ _ _ => cases e
theorem isi_of {m : Bool} {ts : List Ty} {xs : List VV} {S S' : Hs} {z : VV} (e : biV m (.isinst ts) xs S = .ok z S') : ∃ x a, xs = [x] ∧ vTy S x = some a ∧ z = .bl (ts.any (isTy S x)) ∧ S' = S := by
  unfold biV at e
  split at e <;> try contradiction
  rename_i ts' v hb
  cases hb
  split at e
  · rename_i a ha
    cases e
    exact ⟨_, a, rfl, ha, rfl, rfl⟩
  · cases e
theorem pe_ty {x : Str} {t : Ty} {p : Pos} (ht : tyPlain t = true) (hx : x = Str.ofString (tyName t)) (hg : Gl X x) (hm : X.mg x = none) : PE X (.Name x p) (tC (.ty (tyName t))) := by
  subst hx
  obtain ⟨h1, h2, h3⟩ := boot_at ht
  exact pe_bltn hg hm h1 rfl h2 h3
theorem se_isi {e : Expr} {ir : Ex} {x f : Str} {t : Ty} {d : Bool} {p p2 pos : Pos} (hf : f = "isinstance") (hgf : Gl X f) (hmf : X.mg f = none) (hn : notStar e = true) (he : SE X w cl e ir) (ht : tyPlain t = true) (hx : x = Str.ofString (tyName t)) (hg : Gl X x) (hm : X.mg x = none) :
    SB X w cl (.Call (.Name f p) [e, .Name x p2] [] pos) (.bi d (.isinst [t]) [ir]) := by
  subst hf
  have hb : bootBuiltins "isinstance" = some (.builtin "isinstance") := by decide +kernel
  refine sb_of (PE.imp (pe_callB call_isi hgf hmf hb (pa_cons he (pa_cons (pe_ty ht hx hg hm) pa_nil) (star_cons hn)) (by decide) (by decide) (star_cons hn) (by rfl)) fun σ H Q ⟨m, σv, S, s, q⟩ => ?_) fun _ => rfl
  have q : Res X.K w m H σ (((ev cl ir σv S).bind fun v s => .ok [v] s).bind fun vs s => biV d (.isinst [t]) vs s) fun x S' => Post X.K m H x S' Q := q
  rw [Out.bind_assoc] at q
  refine rd_then s (q.bind.imp fun x S1 q1 m1 H1 v x1 s1 r1 => ?_)
  have q1 : Res X.K w m H σ (biV d (.isinst [t]) [x] S1) _ := q1
  obtain ⟨z, S', e1, p⟩ := q1.ok (biV_noX _ _ _ _)
  obtain ⟨x', a, hx', ha, rfl, rfl⟩ := isi_of e1
  cases hx'
  obtain ⟨h1, h2, h3⟩ := ty_of s1.h r1 ha
  refine ⟨v, .ty (tyName t), .type a, .type (tyName t), isN a t, rfl, .ty _, h1, kit_ty (kit_at h2 ht), ?_⟩
  have : [t].any (isTy S' x) = isN a t := by simp [h3 t ht]
  rw [this] at p
  exact p m1 H1 _ x1 s1.h (.bl _)
theorem kit_anyN {K : PySem.W.Frag} {a : String} (ha : a ∈ ["NoneType", "bool", "int", "str", "tuple", "list"]) : ∀ {ts : List Ty}, (∀ t ∈ ts, tyPlain t = true) → PySem.W.kitAny K (.type a) (ts.map fun t => .type (tyName t)) = some (ts.any (isN a))
  | [], _ => kitAny_nil
  | t :: ts, h => by
    refine kitAny_cons (kit_ty (kit_at ha (h t List.mem_cons_self))) (fun e => ?_) fun e => ?_
    · rw [kit_anyN ha fun t ht => h t (List.mem_cons_of_mem _ ht), List.any_cons, e, Bool.false_or]
    · rw [List.any_cons, e, Bool.true_or]
inductive AllTy (X : Cx) : List Expr → List Ty → Prop
  | nil : AllTy X [] []
  | cons {x : Str} {p : Pos} {t : Ty} {es : List Expr} {ts : List Ty} : tyPlain t = true → x = Str.ofString (tyName t) → Gl X x → X.mg x = none → AllTy X es ts → AllTy X (.Name x p :: es) (t :: ts)
def tTys : List Ty → TA
  | [] => tNil
  | t :: ts => tCons (tC (.ty (tyName t))) (tTys ts)
theorem pa_tys : ∀ {es : List Expr} {ts : List Ty}, AllTy X es ts → PA X es (tTys ts)
  | _, _, .nil => pa_nil
  | _, _, .cons h1 h2 h3 h4 t => pa_cons (pe_ty h1 h2 h3 h4) (pa_tys t) rfl
theorem tys_rd {σ : L2.St} {H : Hp} : ∀ {ts : List Ty} {Q : List V → Hp → Prop}, Q (ts.map fun t => .ty (tyName t)) H → tTys ts σ H Q
  | [], _, q => q
  | t :: ts, _, q => tys_rd (ts := ts) q
theorem AllTy.plain : ∀ {es : List Expr} {ts : List Ty}, AllTy X es ts → ∀ t ∈ ts, tyPlain t = true
  | _, _, .nil => by simp
  | _, _, .cons h _ _ _ t => fun u hu => by
    rcases List.mem_cons.mp hu with rfl | hu
    · exact h
    · exact AllTy.plain t u hu
theorem paired_tys : ∀ ts : List Ty, Paired ClsV (ts.map fun t => V.ty (tyName t)) (ts.map fun t => Value.type (tyName t))
  | [] => .nil
  | t :: ts => .cons (.ty _) (paired_tys ts)
theorem se_isiT {e : Expr} {ir : Ex} {f : Str} {ts : List Ty} {es : List Expr} {d : Bool} {k : Nat} {p p2 pos : Pos} (hf : f = "isinstance") (hgf : Gl X f) (hmf : X.mg f = none) (hn : notStar e = true) (he : SE X w cl e ir) (ht : AllTy X es ts) (hl : ts.length ≤ 1000) :
    SB X w cl (.Call (.Name f p) [e, .Tuple es k p2] [] pos) (.bi d (.isinst ts) [ir]) := by
  subst hf
  have hb : bootBuiltins "isinstance" = some (.builtin "isinstance") := by decide +kernel
  refine sb_of (PE.imp (pe_callB call_isiT hgf hmf hb (pa_cons he (pa_cons (pe_tup (pa_tys ht)) pa_nil) (star_cons hn)) (by decide) (by decide) (star_cons hn) (by rfl)) fun σ H Q ⟨m, σv, S, s, q⟩ => ?_) fun _ => rfl
  have q : Res X.K w m H σ (((ev cl ir σv S).bind fun v s => .ok [v] s).bind fun vs s => biV d (.isinst ts) vs s) fun x S' => Post X.K m H x S' Q := q
  rw [Out.bind_assoc] at q
  refine rd_then s (q.bind.imp fun x S1 q1 m1 H1 v x1 s1 r1 => ?_)
  have q1 : Res X.K w m H σ (biV d (.isinst ts) [x] S1) _ := q1
  obtain ⟨z, S', e1, p⟩ := q1.ok (biV_noX _ _ _ _)
  obtain ⟨x', a, hx', ha, rfl, rfl⟩ := isi_of e1
  cases hx'
  refine tys_rd (ts := ts) ⟨by rw [List.length_map, sizeLine_eq]; omega, fun q hq => ?_⟩
  have e2 : Ext m1 H1 m1 (upd H1 q (.tup (ts.map fun t => V.ty (tyName t)))) := Ext.new hq
  have h' := s1.h.new (o := .tup (ts.map fun t => V.ty (tyName t))) hq
  obtain ⟨h1, h2, h3⟩ := ty_of h' (r1.ext e2) ha
  refine ⟨v, q, ts.map fun t => .ty (tyName t), .type a, ts.map fun t => .type (tyName t), ts.any (isN a), rfl, upd_same, paired_tys ts, h1, kit_anyN h2 ht.plain, ?_⟩
  have : ts.any (isTy S' x) = ts.any (isN a) := by
    rw [Bool.eq_iff_iff, List.any_eq_true, List.any_eq_true]
    exact ⟨fun ⟨t, a, b⟩ => ⟨t, a, by rw [← h3 t (ht.plain t a)]; exact b⟩, fun ⟨t, a, b⟩ => ⟨t, a, by rw [h3 t (ht.plain t a)]; exact b⟩⟩
  rw [this] at p
  exact p m1 _ _ (x1.trans e2) h' (.bl _)
theorem gFld_noX (f : Str) (x : VV) (s : Hs) (v : VV) (s' : Hs) : gFld f x s ≠ .exc v s' := by
  unfold gFld
  repeat' split
  all_goals first | exact lift_noX _ _ _ _ | (intro h; cases h)
theorem setFld_noX (f : Str) (x y : VV) (s : Hs) (v : VV) (s' : Hs) : setFld f x y s ≠ .exc v s' := by
  unfold setFld
  repeat' split
  all_goals (intro h; cases h)
theorem madeV_noX (k : Nat) (x : VV) (s : Hs) (v : VV) (s' : Hs) : madeV k x s ≠ .exc v s' := by
  unfold madeV
  split <;> (intro h; cases h)
theorem augV_noX (o : Bop) (x y : VV) (s : Hs) (v : VV) (s' : Hs) : augV o x y s ≠ .exc v s' := by
  unfold augV
  split <;> first | exact lift_noX _ _ _ _ | (intro h; cases h)
theorem look_fld {K : PySem.W.Frag} {m : Mp} {H : Hp} {f : Str} {x : VV} : ∀ {fs : List (Str × VV)} {gs : List (Str × V)}, fs.map (·.1) = gs.map (·.1) → Rs K m H (fs.map (·.2)) (gs.map (·.2)) → fs.lookup f = some x → ∃ v, gs.lookup f = some v ∧ R K m H x v
  | [], [], _, _, h => by cases h
  | [], _ :: _, h, _, _ => by simp at h
  | _ :: _, [], h, _, _ => by simp at h
  | (a, y) :: fs, (b, v) :: gs, h, t, e => by
    rw [List.map_cons, List.map_cons] at h
    rw [List.map_cons, List.map_cons] at t
    injection h with h1 h2
    have h1 : a = b := h1
    subst h1
    cases t with
    | cons r t =>
      rw [List.lookup_cons] at e ⊢
      cases hb : f == a with
      | true =>
        rw [hb] at e
        cases e
        exact ⟨v, rfl, r⟩
      | false =>
        rw [hb] at e
        exact look_fld h2 t e
theorem look_none {f : Str} : ∀ {fs : List (Str × VV)} {gs : List (Str × V)}, fs.map (·.1) = gs.map (·.1) → fs.lookup f = none → gs.lookup f = none
  | [], [], _, _ => rfl
  | [], _ :: _, h, _ => by simp at h
  | _ :: _, [], h, _ => by simp at h
  | (a, y) :: fs, (b, v) :: gs, h, e => by
    rw [List.map_cons, List.map_cons] at h
    injection h with h1 h2
    have h1 : a = b := h1
    subst h1
    rw [List.lookup_cons] at e ⊢
    cases hb : f == a with
    | true => rw [hb] at e; cases e
    | false =>
      rw [hb] at e
      exact look_none h2 e
theorem put_fld {K : PySem.W.Frag} {m : Mp} {H : Hp} {f : Str} {x : VV} {v : V} (r : R K m H x v) : ∀ {fs : List (Str × VV)} {gs : List (Str × V)}, fs.map (·.1) = gs.map (·.1) → Rs K m H (fs.map (·.2)) (gs.map (·.2)) →
    (putFV f x fs).map (·.1) = (putF f v gs).map (·.1) ∧ Rs K m H ((putFV f x fs).map (·.2)) ((putF f v gs).map (·.2))
  | [], [], _, _ => ⟨rfl, .cons r .nil⟩
  | [], _ :: _, h, _ => by simp at h
  | _ :: _, [], h, _ => by simp at h
  | (a, y) :: fs, (b, u) :: gs, h, t => by
    rw [List.map_cons, List.map_cons] at h
    rw [List.map_cons, List.map_cons] at t
    injection h with h1 h2
    have h1 : a = b := h1
    subst h1
    cases t with
    | cons q t =>
      unfold putFV putF
      by_cases hb : a = f
      · rw [if_pos hb, if_pos hb, List.map_cons, List.map_cons, List.map_cons, List.map_cons]
        exact ⟨by rw [h2], .cons r t⟩
      · rw [if_neg hb, if_neg hb, List.map_cons, List.map_cons, List.map_cons, List.map_cons]
        obtain ⟨i1, i2⟩ := put_fld r h2 t
        exact ⟨by rw [i1], .cons q i2⟩
def tFldO (K : PySem.W.Frag) (n : Str) (te : TE) : TE := fun σ H Q => te σ H fun x H1 => (∃ (a d : Addr) (c : String) (v : V), x = .ref a ∧ XcG K c ∧ xF c = n ∧ H1 a = some (XO a (xA K c) d) ∧ H1 d = some (.xd [(n, v)]) ∧ Q v H1) ∨
  ∃ a C dx fs v, x = .ref a ∧ H1 a = some (.ins C dx fs) ∧ Cls K C ∧ NoAttr K C n ∧ fs.lookup n = some v ∧ Q v H1
theorem pe_fldO {e : Expr} {te : TE} {pos : Pos} {n : Str} (he : PE X e te) (hb : attributeBase e n X.env (eval e X.env) = eval e X.env) : PE X (.Attribute e n pos) (tFldO X.K n te) := by
  refine ⟨fun pins s σ H Q I h => ?_⟩
  refine attr_of hb (thn (he.run pins s σ H _ I h) fun u s1 hh => ?_)
  obtain ⟨x, H1, I1, rx, ⟨a, d, c, v, ex, G, hn, ea, ed, q⟩ | ⟨a, C, dx, fs, v, ex, ea, c, n, l, q⟩⟩ := hh
  · subst ex
    cases (show u = Value.ref a from rx)
    obtain ⟨ox, od, J, mA, hr, hl⟩ := xo_inst I1 ea ed
    have l : List.lookup n [(n, v)] = some v := by simp [List.lookup]
    obtain ⟨u, hu, ru⟩ := RelO.some_of (v := v) (o := mA n) (by rw [← l]; exact hr n)
    exact HandSPX.exc_get I1.kIn J G.ga G.gt (by rw [G.mro, (bm_base c).1, Bool.or_true]) (PySem.W.findObj_own G.k.dc (hn ▸ G.k.no) rfl (by rw [hl, hu])) (handed_of ru) ⟨v, H1, I1.tok _, ru, q⟩
  · subst ex
    obtain rfl : u = Value.ref a := rx
    exact getattr_ok I1 ea c n l fun u' s2 I2 ru => ⟨v, H1, I2, ru, q⟩
theorem xv_of {K : PySem.W.Frag} {m : Mp} {H : Hp} {ts : List Xt} {x : VV} {v : V} {b : Bool} (r : R K m H x v) (e : isxV ts x = some b) (ok : ∀ t ∈ ts, t.ok K) : ∃ ty f, XV K H v ty ∧ (∀ t ∈ ts, PySem.W.kitOne K ty (t.val K) = some (f t)) ∧ b = ts.any f := by
  cases r with
  | non =>
    cases e
    refine ⟨_, fun _ => false, .non, fun t ht => kit_non (ok t ht), ?_⟩
    induction ts with
    | nil => rfl
    | cons t ts ih => rw [List.any_cons, Bool.false_or, ← ih fun u hu => ok u (List.mem_cons_of_mem _ hu)]
  | exc G h1 m1 h2 m2 r =>
    cases e
    exact ⟨_, subX _, .exc G h1 h2, fun t ht => G.kit (ok t ht), rfl⟩
  | _ => cases e
inductive AllXt (X : Cx) : List Expr → List Xt → Prop
  | nil : AllXt X [] []
  | own {x : Str} {p : Pos} {t : String} {es : List Expr} {ts : List Xt} : x = Str.ofString t → Gl X x → (x == ("__debug__" : Str)) = false → X.mg x = some (.ref (xA X.K t)) → XcG X.K t → AllXt X es ts → AllXt X (.Name x p :: es) (.own t :: ts)
  | bas {x : Str} {p : Pos} {t : String} {es : List Expr} {ts : List Xt} : x = Str.ofString t → Gl X x → X.mg x = none → t ∈ xBas → AllXt X es ts → AllXt X (.Name x p :: es) (.bas t :: ts)
theorem xBas_boot : (xBas.all fun t => decide (bootBuiltins (Str.ofString t) = some (.type t)) && decide (Str.ofString t ≠ "__name__") && !(Str.ofString t == ("__debug__" : Str))) = true := by decide +kernel
def tXts (K : PySem.W.Frag) : List Xt → TA
  | [] => tNil
  | t :: ts => tCons (tC (t.v K)) (tXts K ts)
theorem AllXt.ok : ∀ {es : List Expr} {ts : List Xt}, AllXt X es ts → ∀ t ∈ ts, t.ok X.K
  | _, _, .nil => by simp
  | _, _, .own _ _ _ _ g r => fun u hu => by
    rcases List.mem_cons.mp hu with rfl | hu
    · exact g
    · exact AllXt.ok r u hu
  | _, _, .bas _ _ _ g r => fun u hu => by
    rcases List.mem_cons.mp hu with rfl | hu
    · exact g
    · exact AllXt.ok r u hu
theorem pe_gref {x : Str} {p : Pos} {a : Addr} (hg : Gl X x) (hd : (x == ("__debug__" : Str)) = false) (hm : X.mg x = some (.ref a)) : PE X (.Name x p) (tC (.ref a)) :=
  ⟨fun pins s σ H Q I h => ld_glob I hg hm ⟨.ref a, H, I, rfl, h⟩ hd⟩
theorem pa_xts : ∀ {es : List Expr} {ts : List Xt}, AllXt X es ts → PA X es (tXts X.K ts)
  | _, _, .nil => pa_nil
  | _, _, .own h1 h2 h3 h4 _ r => pa_cons (pe_gref h2 h3 h4) (pa_xts r) rfl
  | _, _, .bas (x := x) (t := t) h1 h2 h3 h4 r => by
    have q := List.all_eq_true.mp xBas_boot t h4
    simp only [Bool.and_eq_true, Bool.not_eq_true', decide_eq_true_eq] at q
    subst h1
    exact pa_cons (pe_bltn h2 h3 q.1.1 rfl q.1.2 q.2) (pa_xts r) rfl
theorem xts_rd {K : PySem.W.Frag} {σ : L2.St} {H : Hp} : ∀ {ts : List Xt} {Q : List V → Hp → Prop}, Q (ts.map (Xt.v K)) H → tXts K ts σ H Q
  | [], _, q => q
  | t :: ts, _, q => xts_rd (ts := ts) q
theorem paired_xts (K : PySem.W.Frag) : ∀ ts : List Xt, Paired ClsV (ts.map (Xt.v K)) (ts.map (Xt.val K))
  | [] => .nil
  | t :: ts => .cons (cls_val K t) (paired_xts K ts)
theorem se_isx1 {e te : Expr} {ir : Ex} {f : Str} {t : Xt} {p pos : Pos} (hf : f = "isinstance") (hgf : Gl X f) (hmf : X.mg f = none) (hn : notStar e = true) (hnt : notStar te = true) (he : SE X w cl e ir) (ht : AllXt X [te] [t]) : SB X w cl (.Call (.Name f p) [e, te] [] pos) (.isx ir [t]) := by
  subst hf
  have hb : bootBuiltins "isinstance" = some (.builtin "isinstance") := by decide +kernel
  refine sb_of (PE.imp (pe_callB call_xis hgf hmf hb (pa_cons he (pa_xts ht) (star_cons hn)) (by decide) (by decide) (star_cons hn) (by rw [star_cons hnt] <;> rfl)) fun σ H Q ⟨m, σv, S, s, q⟩ => ?_) fun _ => rfl
  have q : Res X.K w m H σ ((ev cl ir σv S).bind fun x s => lift ((isxV [t] x).map .bl) s) fun x S' => Post X.K m H x S' Q := q
  refine rd_then s (q.bind.imp fun x S1 q1 m1 H1 v x1 s1 r1 => ?_)
  obtain ⟨z, S', e1, p⟩ := q1.ok (lift_noX _ _)
  obtain ⟨e2, rfl⟩ := lift_eq_ok e1
  obtain ⟨b, hb2, rfl⟩ := Option.map_eq_some_iff.mp e2
  obtain ⟨ty, g, k1, k2, rfl⟩ := xv_of r1 hb2 ht.ok
  refine xts_rd (ts := [t]) ⟨v, t.v X.K, ty, t.val X.K, g t, rfl, cls_val _ _, k1, k2 t List.mem_cons_self, ?_⟩
  have : [t].any g = g t := by simp
  rw [this] at p
  exact p m1 H1 _ x1 s1.h (.bl _)
theorem se_isxT {e : Expr} {ir : Ex} {f : Str} {ts : List Xt} {es : List Expr} {k : Nat} {p p2 pos : Pos} (hf : f = "isinstance") (hgf : Gl X f) (hmf : X.mg f = none) (hn : notStar e = true) (he : SE X w cl e ir) (ht : AllXt X es ts) (hl : ts.length ≤ 1000) : SB X w cl (.Call (.Name f p) [e, .Tuple es k p2] [] pos) (.isx ir ts) := by
  subst hf
  have hb : bootBuiltins "isinstance" = some (.builtin "isinstance") := by decide +kernel
  refine sb_of (PE.imp (pe_callB call_xisT hgf hmf hb (pa_cons he (pa_cons (pe_tup (pa_xts ht)) pa_nil) (star_cons hn)) (by decide) (by decide) (star_cons hn) (by rfl)) fun σ H Q ⟨m, σv, S, s, q⟩ => ?_) fun _ => rfl
  have q : Res X.K w m H σ ((ev cl ir σv S).bind fun x s => lift ((isxV ts x).map .bl) s) fun x S' => Post X.K m H x S' Q := q
  refine rd_then s (q.bind.imp fun x S1 q1 m1 H1 v x1 s1 r1 => ?_)
  obtain ⟨z, S', e1, p⟩ := q1.ok (lift_noX _ _)
  obtain ⟨e2, rfl⟩ := lift_eq_ok e1
  obtain ⟨b, hb2, rfl⟩ := Option.map_eq_some_iff.mp e2
  refine xts_rd (ts := ts) ⟨by rw [List.length_map, sizeLine_eq]; omega, fun q hq => ?_⟩
  have x2 : Ext m1 H1 m1 (upd H1 q (.tup (ts.map (Xt.v X.K)))) := Ext.new hq
  have h' := s1.h.new (o := .tup (ts.map (Xt.v X.K))) hq
  obtain ⟨ty, g, k1, k2, rfl⟩ := xv_of (r1.ext x2) hb2 ht.ok
  exact ⟨v, q, ts.map (Xt.v X.K), ty, ts.map (Xt.val X.K), ts.any g, rfl, upd_same, paired_xts _ ts, k1, kit_all k2, p m1 _ _ (x1.trans x2) h' (.bl _)⟩
def okBase (o : Expr) : Bool := match o with
  | .Name .. => true
  | .Attribute .. => true
  | .Subscript .. => true
  | .Call (.Name ..) (_ :: _) _ _ => true
  | .Call (.Name ..) [] (_ :: _) _ => true
  | .Call (.Attribute ..) _ _ _ => true
  | .Constant .. => true
  | _ => false
theorem base_ok {o : Expr} {n : Str} (h : okBase o = true) : attributeBase o n X.env (eval o X.env) = eval o X.env := by
  unfold okBase at h
  split at h
  · rfl
  · rfl
  · rfl
  · rfl
  · rfl
  · rfl
  · rfl
  · cases h
theorem se_fld {e : Expr} {ir : Ex} {n : Str} {pos : Pos} (he : SE X w cl e ir) (hb : okBase e = true) : SB X w cl (.Attribute e n pos) (.fld ir n) := by
  refine sb_of (PE.imp (pe_fldO he (base_ok hb)) fun σ H Q ⟨m, σv, S, s, q⟩ => ?_) fun _ => rfl
  have q : Res X.K w m H σ ((ev cl ir σv S).bind fun x s => gFld n x s) fun x S' => Post X.K m H x S' Q := q
  refine rd_then s (q.bind.imp fun x S1 q1 m1 H1 v x1 s1 r1 => ?_)
  obtain ⟨z, S', e1, p⟩ := q1.ok (gFld_noX _ _ _)
  unfold gFld at e1
  split at e1
  · rename_i c y
    split at e1
    · rename_i hc
      cases e1
      cases r1 with
      | exc G h1 m1 h2 m2 r =>
        rw [hc] at h2
        exact .inl ⟨_, _, c, _, rfl, G, hc, h1, h2, p _ _ _ x1 s1.h r⟩
    · cases e1
  · rename_i k
    split at e1
    · rename_i c fs es
      split at e1
      · rename_i hc
        obtain ⟨e2, rfl⟩ := lift_eq_ok e1
        cases r1 with
        | ref hk =>
          rename_i a
          obtain ⟨dx, gs, h1, h2, h3, h4⟩ := s1.h.obj k _ a es hk
          obtain ⟨u, hu, ru⟩ := look_fld h3 h4 e2
          exact .inr ⟨a, _, dx, gs, u, rfl, h1, h2.cls, h2.no n (by simpa using hc), hu, p _ _ _ x1 s1.h ru⟩
      · cases e1
    · cases e1
  · cases e1
theorem tyV_list {K : PySem.W.Frag} {m : Mp} {H : Hp} {S : Hs} {x : VV} {v : V} {xs : List VV} (h : SimH K m H S) (r : R K m H x v) (e : lstOf S x = some xs) : tyV K "list" v H := by
  obtain ⟨a, ys, rfl, ha, _⟩ := lst_rd h r e
  exact .inl ⟨rfl, _, SqL.of ha⟩
theorem sd_append (K : PySem.W.Frag) {m : Mp} {H : Hp} {S S' : Hs} {x z : VV} {v : V} {vs : List VV} {ws : List V} {Q : VK} (h : SimH K m H S) (r : R K m H x v) (t : Rs K m H vs ws) (e : bmV .append x vs S = .ok z S') (p : Post K m H z S' Q) : rAppend v ws H Q := by
  unfold bmV at e
  split at e <;> try contradiction
  obtain ⟨y, rfl, ry⟩ := t.one
  split at e
  · rename_i xs hx
    split at e
    · rename_i hl
      cases e
      cases r with
      | ref hk =>
        obtain ⟨ys, h1, h2⟩ := h.list hk hx
        refine ⟨_, ys, y, rfl, rfl, h1, by rw [← h2.length, ← szL_eq]; exact hl, ?_⟩
        exact p m _ _ (Ext.write (List.mem_of_getElem? hk) (nfrz_lst h1)) (h.write hk (h2.append (.cons ry .nil))) .non
    · cases e
  · cases e
theorem sd_extend (K : PySem.W.Frag) {m : Mp} {H : Hp} {S S' : Hs} {x z : VV} {v : V} {vs : List VV} {ws : List V} {Q : VK} (h : SimH K m H S) (r : R K m H x v) (t : Rs K m H vs ws) (e : bmV .extend x vs S = .ok z S') (p : Post K m H z S' Q) : rExtend v ws H Q := by
  unfold bmV at e
  split at e <;> try contradiction
  obtain ⟨y, rfl, ry⟩ := t.one
  split at e
  · rename_i xs zs hx hy
    split at e
    · rename_i hl
      cases e
      obtain ⟨b, us, rfl, hb, tb⟩ := lst_rd h ry hy
      cases r with
      | ref hk =>
        obtain ⟨ys, h1, h2⟩ := h.list hk hx
        refine ⟨_, b, ys, us, rfl, rfl, h1, hb, by rw [← h2.length, ← tb.length, ← szL_eq]; exact hl, ?_⟩
        exact p m _ _ (Ext.write (List.mem_of_getElem? hk) (nfrz_lst h1)) (h.write hk (h2.append tb)) .non
    · cases e
  · cases e
theorem sd_pop (K : PySem.W.Frag) {m : Mp} {H : Hp} {S S' : Hs} {x z : VV} {v : V} {vs : List VV} {ws : List V} {Q : VK} (h : SimH K m H S) (r : R K m H x v) (t : Rs K m H vs ws) (e : bmV .pop x vs S = .ok z S') (p : Post K m H z S' Q) : rPop v ws H Q := by
  unfold bmV at e
  split at e <;> try contradiction
  cases t
  split at e
  · rename_i xs hx
    split at e
    · rename_i y hy
      cases e
      cases r with
      | ref hk =>
        obtain ⟨ys, h1, h2⟩ := h.list hk hx
        obtain ⟨u, hu, ru⟩ := h2.get hy
        have ex := Ext.write (m := m) (H := H) (o := .lst ys.dropLast) (List.mem_of_getElem? hk) (nfrz_lst h1)
        exact ⟨_, ys, u, rfl, rfl, h1, by rw [← h2.length]; exact hu, p m _ _ ex (h.write hk h2.dropLast) (ru.ext ex)⟩
    · cases e
  · cases e
theorem Rs.eraseIdx {K : PySem.W.Frag} {m : Mp} {H : Hp} : ∀ {xs : List VV} {ys : List V} (k : Nat), Rs K m H xs ys → Rs K m H (xs.eraseIdx k) (ys.eraseIdx k)
  | _, _, _, .nil => .nil
  | _, _, 0, .cons r t => t
  | _, _, k + 1, .cons r t => .cons r (Rs.eraseIdx k t)
theorem sd_popAt (K : PySem.W.Frag) {m : Mp} {H : Hp} {S S' : Hs} {x z : VV} {v : V} {vs : List VV} {ws : List V} {Q : VK} (h : SimH K m H S) (r : R K m H x v) (t : Rs K m H vs ws) (e : bmV .popAt x vs S = .ok z S') (p : Post K m H z S' Q) : rPopAt v ws H Q := by
  unfold bmV at e
  split at e <;> try contradiction
  obtain ⟨y, rfl, ry⟩ := t.one
  cases ry
  split at e
  · rename_i i _ _ xs hx
    split at e
    · rename_i y hy
      cases e
      by_cases hi : 0 ≤ i ∧ i < 2 ^ 62
      · rw [if_pos hi] at hy
        cases r with
        | ref hk =>
          obtain ⟨ys, h1, h2⟩ := h.list hk hx
          obtain ⟨u, hu, ru⟩ := h2.get hy
          have ex := Ext.write (m := m) (H := H) (o := .lst (ys.eraseIdx i.toNat)) (List.mem_of_getElem? hk) (nfrz_lst h1)
          have hl : i.toNat < ys.length := (List.getElem?_eq_some_iff.mp hu).1
          refine ⟨_, ys, i, i.toNat, u, rfl, rfl, h1, by omega, by omega, ?_, hu, p m _ _ ex (h.write hk (h2.eraseIdx _)) (ru.ext ex)⟩
          unfold seqIndex?
          dsimp only
          rw [if_neg (show ¬ i < 0 by omega), if_pos (by rw [Bool.and_eq_true, decide_eq_true_eq, decide_eq_true_eq]; omega)]
      · rw [if_neg hi] at hy
        cases hy
    · cases e
  · cases e
theorem few_ok {es : List Expr} {cpos : Pos} (h : ∀ e ∈ es, notStar e = true) (hl : es.length < 30) : ((backTo cpos (starEach es X.env)).all (fun x => !x.1) && (backToKw cpos (keywordEach [] X.env)).all (fun x => x.1.isSome)
      && decide (es.length + ([] : List Keyword).length + (if ([] : List Keyword).isEmpty then 0 else 1) < 30)) = true := by
  have h1 : ∀ {es : List Expr}, (∀ e ∈ es, notStar e = true) → (backTo cpos (starEach es X.env)).all (fun x => !x.1) = true := by
    intro es
    induction es with
    | nil => intro _; rfl
    | cons e es ih =>
      intro h
      rw [star_cons (h e List.mem_cons_self)]
      show (true && (backTo cpos (starEach es X.env)).all (fun x => !x.1)) = true
      rw [ih fun e he => h e (List.mem_cons_of_mem _ he)]
      rfl
  rw [h1 h]
  show (true && true && decide (es.length + 0 + 0 < 30)) = true
  simpa using hl
theorem se_bm1 {b : Bm} {o e : Expr} {io : Ex} {irs : List Ex} {n : Str} {id : String} {apos cpos : Pos} {r : V → List V → Hp → VK → Prop} (pa : PlainAttrs "list") (slot : Slot "list" n id) (hty : typeOf (.builtin id) = pure (.type "method_descriptor")) (hm : MtR X id r)
    (hr : ∀ {m : Mp} {H : Hp} {S S' : Hs} {x z : VV} {v : V} {vs : List VV} {ws : List V} {Q : VK}, SimH X.K m H S → R X.K m H x v → Rs X.K m H vs ws → bmV b x vs S = .ok z S' → Post X.K m H z S' Q → r v ws H Q)
    (hb : ∀ v s u, bmTy b v s = some u → ∃ xs, lstOf s v = some xs) (ho : SE X w cl o io) (ha : SA X w cl [e] irs) (hn : notStar e = true) (hbase : okBase o = true) (hline : (apos.endLine == cpos.line) = true) : SB X w cl (.Call (.Attribute o n apos) [e] [] cpos) (.bm b io irs) := by
  refine sb_of (PE.imp (pe_bm pa slot hty hm ho ha (base_ok hbase) (few_ok (by simpa using hn) (Nat.lt_of_lt_of_le (Nat.lt_succ_self 1) (by decide : 2 ≤ 30))) hline (star_cons hn) (by rfl)) fun σ H Q ⟨m, σv, S, s, q⟩ => ?_) fun _ => rfl
  have q : Res X.K w m H σ ((ev cl io σv S).bind fun v s => (lift (bmTy b v s) s).bind fun _ s => (evs cl irs σv s).bind fun vs s => bmV b v vs s) fun x S' => Post X.K m H x S' Q := q
  refine rd_then s (q.bind.imp fun x S1 q1 m1 H1 v x1 s1 r1 => ?_)
  obtain ⟨u, S2, e1, q2⟩ := q1.bind.ok (lift_noX _ _)
  obtain ⟨e2, rfl⟩ := lift_eq_ok e1
  obtain ⟨xs, hx⟩ := hb _ _ _ e2
  refine ⟨tyV_list s1.h r1 hx, rd_thenA s1 ((q2.bind.ext x1).imp fun vs S3 q3 m2 H2 ws x2 s2 t2 => ?_)⟩
  obtain ⟨z, S', e3, p⟩ := q3.ok (bmV_noX _ _ _ _)
  exact hr s2.h (r1.ext x2) t2 e3 ((p.ext x1).ext x2)
theorem se_bm0 {b : Bm} {o : Expr} {io : Ex} {n : Str} {id : String} {apos cpos : Pos} {r : V → List V → Hp → VK → Prop} (pa : PlainAttrs "list") (slot : Slot "list" n id) (hty : typeOf (.builtin id) = pure (.type "method_descriptor")) (hm : MtR X id r)
    (hr : ∀ {m : Mp} {H : Hp} {S S' : Hs} {x z : VV} {v : V} {vs : List VV} {ws : List V} {Q : VK}, SimH X.K m H S → R X.K m H x v → Rs X.K m H vs ws → bmV b x vs S = .ok z S' → Post X.K m H z S' Q → r v ws H Q)
    (hb : ∀ v s u, bmTy b v s = some u → ∃ xs, lstOf s v = some xs) (ho : SE X w cl o io) (hbase : okBase o = true) (hline : (apos.endLine == cpos.line) = true) : SB X w cl (.Call (.Attribute o n apos) [] [] cpos) (.bm b io []) := by
  refine sb_of (PE.imp (pe_bm0 pa slot hty hm ho (base_ok hbase) hline) fun σ H Q ⟨m, σv, S, s, q⟩ => ?_) fun _ => rfl
  have q : Res X.K w m H σ ((ev cl io σv S).bind fun v s => (lift (bmTy b v s) s).bind fun _ s => (evs cl [] σv s).bind fun vs s => bmV b v vs s) fun x S' => Post X.K m H x S' Q := q
  refine rd_then s (q.bind.imp fun x S1 q1 m1 H1 v x1 s1 r1 => ?_)
  obtain ⟨u, S2, e1, q2⟩ := q1.bind.ok (lift_noX _ _)
  obtain ⟨e2, rfl⟩ := lift_eq_ok e1
  obtain ⟨xs, hx⟩ := hb _ _ _ e2
  have q3 : Res X.K w m H σ (bmV b x [] S2) fun x S' => Post X.K m H x S' Q := q2
  obtain ⟨z, S', e3, p⟩ := q3.ok (bmV_noX _ _ _ _)
  exact ⟨tyV_list s1.h r1 hx, hr s1.h r1 .nil e3 (p.ext x1)⟩
def eqb (k : Bool) (v : Value) : Bool := match v with
  | .bool n => n == k
  | _ => false
theorem vals_bls : ∀ {bs : List Bool} {us : List Value}, Vals (bs.map V.bl) us → us = bs.map Value.bool
  | [], _, .nil => rfl
  | b :: bs, _, .cons r t => by
    cases (show _ = Value.bool b from r)
    rw [vals_bls t]
    rfl
theorem eqb_count {k : Bool} : ∀ bs : List Bool, (bs.map Value.bool).countP (eqb k) = bs.count k
  | [] => rfl
  | b :: bs => by
    have ih := eqb_count (k := k) bs
    rw [List.map_cons, List.countP_cons, List.count_cons, ih] <;> rfl
def rCntB (K : PySem.W.Frag) : V → List V → Hp → VK → Prop := fun x xs H Q => ∃ (p : Ad) (bs : List Bool) (k : Bool), x = .ref p ∧ xs = [.bl k] ∧ SqL K H p (bs.map V.bl) ∧ Q (.int (bs.count k : Nat)) H
theorem mt_bcount : MtR X "list.count" (rCntB X.K) := by
  intro pins s σ H x xs v us Q I rx rxs h
  obtain ⟨p, bs, k, rfl, rfl, hs, q⟩ := h
  cases rx
  obtain ⟨u, rfl, ru⟩ := rxs.one
  cases (show u = Value.bool k from ru)
  obtain ⟨its, rv, ⟨⟨cls, dd, data, sl⟩, n, ho, hc, hdn, hd⟩, hlen⟩ := I.list hs
  simp only at hc hd
  subst hc hd
  obtain rfl := vals_bls rv
  refine call_meets PySem.F.slot_list_count ⟨_, ho, rfl⟩ PySem.F.entry_list_count (PySem.F.args_list_count_2 _ _)
    (SeqAt.list_countAt p (bs.map Value.bool).toArray n dd sl (.bool k) (eqb k)) ⟨ho, fun y hy => ?_, ?_⟩
  · obtain ⟨b, _, rfl⟩ := List.mem_map.mp (show y ∈ bs.map Value.bool by simpa using hy)
    exact SeqAt.EqAt.bool_bool b k
  have ec : (bs.map Value.bool).toArray.toList.countP (eqb k) = bs.count k := eqb_count bs
  refine ⟨.int (bs.count k : Nat), H, I.tok _, ⟨s.toks, ?_⟩, q⟩
  show Value.int (((bs.map Value.bool).toArray.toList.countP (eqb k) : Nat) : Int) s.toks = Value.int ((bs.count k : Nat) : Int) s.toks
  rw [ec]
theorem sd_count (K : PySem.W.Frag) {m : Mp} {H : Hp} {S S' : Hs} {x z : VV} {v : V} {vs : List VV} {ws : List V} {Q : VK} (h : SimH K m H S) (r : R K m H x v) (t : Rs K m H vs ws) (e : bmV .count x vs S = .ok z S') (p : Post K m H z S' Q) : rCntI K v ws H Q ∨ rCntB K v ws H Q := by
  unfold bmV at e
  split at e <;> try contradiction
  · obtain ⟨y, rfl, ry⟩ := t.one
    cases ry
    obtain ⟨e1, rfl⟩ := lift_eq_ok e
    obtain ⟨ns, hns, rfl⟩ := Option.map_eq_some_iff.mp e1
    obtain ⟨xs, hx, hi⟩ := Option.bind_eq_some_iff.mp hns
    obtain ⟨a, ys, rfl, ha, ty⟩ := lst_rd h r hx
    have := Rs.ints hi ty
    subst this
    exact .inl ⟨a, ns, _, rfl, rfl, SqL.of ha, p m H _ Ext.refl h (.int _)⟩
  · obtain ⟨y, rfl, ry⟩ := t.one
    cases ry
    obtain ⟨e1, rfl⟩ := lift_eq_ok e
    obtain ⟨ns, hns, rfl⟩ := Option.map_eq_some_iff.mp e1
    obtain ⟨xs, hx, hi⟩ := Option.bind_eq_some_iff.mp hns
    obtain ⟨a, ys, rfl, ha, ty⟩ := lst_rd h r hx
    have := Rs.bls hi ty
    subst this
    exact .inr ⟨a, ns, _, rfl, rfl, SqL.of ha, p m H _ Ext.refl h (.int _)⟩
theorem idx_first {k : Int} : ∀ {ns : List Int}, k ∈ ns → ns[ns.idxOf k]? = some k ∧ ∀ m z, m < ns.idxOf k → ns[m]? = some z → z ≠ k
  | [], h => by cases h
  | a :: ns, h => by
    rw [List.idxOf_cons]
    by_cases e : a = k
    · subst e
      simp
    · have h2 : k ∈ ns := by
        rcases List.mem_cons.mp h with h | h
        · exact absurd h.symm e
        · exact h
      obtain ⟨i1, i2⟩ := idx_first h2
      have : (a == k) = false := by simpa using e
      rw [this]
      refine ⟨by simpa using i1, fun m z hm hz => ?_⟩
      cases m with
      | zero =>
        have : z = a := by simpa using hz.symm
        rw [this]
        exact e
      | succ m => exact i2 m z (by simp at hm; omega) (by simpa using hz)
theorem sd_index (K : PySem.W.Frag) {m : Mp} {H : Hp} {S S' : Hs} {x z : VV} {v : V} {vs : List VV} {ws : List V} {Q : VK} (h : SimH K m H S) (r : R K m H x v) (t : Rs K m H vs ws) (e : bmV .index x vs S = .ok z S') (p : Post K m H z S' Q) : rIndex K v ws H Q := by
  unfold bmV at e
  split at e <;> try contradiction
  obtain ⟨y, rfl, ry⟩ := t.one
  cases ry
  split at e
  · rename_i ns hns
    split at e
    · rename_i hk
      cases e
      obtain ⟨xs, hx, hi⟩ := Option.bind_eq_some_iff.mp hns
      obtain ⟨a, ys, rfl, ha, ty⟩ := lst_rd h r hx
      have := Rs.ints hi ty
      subst this
      obtain ⟨i1, i2⟩ := idx_first hk
      refine ⟨a, _, _, _, .int _, rfl, rfl, SqL.of ha, rfl, List.all_eq_true.mpr fun u hu => ?_, by rw [List.getElem?_map, i1]; rfl, ?_, fun m z hm hz => ?_, p.here h (.int _)⟩
      · obtain ⟨n, _, rfl⟩ := List.mem_map.mp hu
        rfl
      · show decide _ = true
        simp
      · rw [List.getElem?_map] at hz
        obtain ⟨n, hn, rfl⟩ := Option.map_eq_some_iff.mp hz
        have := i2 m n hm hn
        show decide _ = false
        simpa using this
    · cases e
  · cases e
def bm1Of (n : Str) : Option Bm := if n = "append" then some .append else if n = "extend" then some .extend else if n = "count" then some .count else if n = "pop" then some .popAt else if n = "index" then some .index else none
def bm0Of (n : Str) : Option Bm := if n = "pop" then some .pop else if n = "reverse" then some .reverse else none
theorem Rs.rev {K : PySem.W.Frag} {m : Mp} {H : Hp} : ∀ {xs : List VV} {ys : List V}, Rs K m H xs ys → Rs K m H xs.reverse ys.reverse
  | _, _, .nil => .nil
  | _, _, .cons r t => by
    rw [List.reverse_cons, List.reverse_cons]
    exact (Rs.rev t).append (.cons r .nil)
theorem sd_reverse (K : PySem.W.Frag) {m : Mp} {H : Hp} {S S' : Hs} {x z : VV} {v : V} {vs : List VV} {ws : List V} {Q : VK} (h : SimH K m H S) (r : R K m H x v) (t : Rs K m H vs ws) (e : bmV .reverse x vs S = .ok z S') (p : Post K m H z S' Q) : rReverse v ws H Q := by
  unfold bmV at e
  split at e <;> try contradiction
  cases t
  split at e
  · rename_i xs hx
    cases e
    cases r with
    | ref hk =>
      obtain ⟨ys, h1, h2⟩ := h.list hk hx
      exact ⟨_, ys, rfl, rfl, h1, p m _ _ (Ext.write (List.mem_of_getElem? hk) (nfrz_lst h1)) (h.write hk h2.rev) .non⟩
  · cases e
theorem se_bm1_of {b : Bm} {o e : Expr} {io : Ex} {irs : List Ex} {n : Str} {apos cpos : Pos} (hb : bm1Of n = some b) (ho : SE X w cl o io) (ha : SA X w cl [e] irs) (hn : notStar e = true) (hbase : okBase o = true) (hline : (apos.endLine == cpos.line) = true) : SB X w cl (.Call (.Attribute o n apos) [e] [] cpos) (.bm b io irs) := by
  unfold bm1Of at hb
  split at hb
  · rename_i hn'
    cases hb
    subst hn'
    exact se_bm1 F.plainAttrs_list F.slot_list_append F.type_list_append mt_append (sd_append X.K) (fun v s u h => let ⟨xs, h1, _⟩ := Option.map_eq_some_iff.mp h; ⟨xs, h1⟩) ho ha hn hbase hline
  · split at hb
    · rename_i hn'
      cases hb
      subst hn'
      exact se_bm1 F.plainAttrs_list F.slot_list_extend F.type_list_extend mt_extend (sd_extend X.K) (fun v s u h => let ⟨xs, h1, _⟩ := Option.map_eq_some_iff.mp h; ⟨xs, h1⟩) ho ha hn hbase hline
    · split at hb
      · rename_i hn'
        cases hb
        subst hn'
        exact se_bm1 F.plainAttrs_list F.slot_list_count F.type_list_count (mt_lcount.or mt_bcount) (sd_count X.K) (fun v s u h => let ⟨xs, h1, _⟩ := Option.map_eq_some_iff.mp h; ⟨xs, h1⟩) ho ha hn hbase hline
      · split at hb
        · rename_i hn'
          cases hb
          subst hn'
          exact se_bm1 F.plainAttrs_list F.slot_list_pop F.type_list_pop mt_popAt (sd_popAt X.K) (fun v s u h => let ⟨xs, h1, _⟩ := Option.map_eq_some_iff.mp h; ⟨xs, h1⟩) ho ha hn hbase hline
        · split at hb
          · rename_i hn'
            cases hb
            subst hn'
            exact se_bm1 F.plainAttrs_list F.slot_list_index F.type_list_index mt_index (sd_index X.K) (fun v s u h => let ⟨xs, h1, _⟩ := Option.map_eq_some_iff.mp h; ⟨xs, h1⟩) ho ha hn hbase hline
          · cases hb
theorem se_bm0_of {b : Bm} {o : Expr} {io : Ex} {n : Str} {apos cpos : Pos} (hb : bm0Of n = some b) (ho : SE X w cl o io) (hbase : okBase o = true) (hline : (apos.endLine == cpos.line) = true) : SB X w cl (.Call (.Attribute o n apos) [] [] cpos) (.bm b io []) := by
  unfold bm0Of at hb
  split at hb
  · rename_i hn'
    cases hb
    subst hn'
    exact se_bm0 F.plainAttrs_list F.slot_list_pop F.type_list_pop mt_pop (sd_pop X.K) (fun v s u h => let ⟨xs, h1, _⟩ := Option.map_eq_some_iff.mp h; ⟨xs, h1⟩) ho hbase hline
  · split at hb
    · rename_i hn'
      cases hb
      subst hn'
      exact se_bm0 F.plainAttrs_list F.slot_list_reverse F.type_list_reverse mt_reverse (sd_reverse X.K) (fun v s u h => let ⟨xs, h1, _⟩ := Option.map_eq_some_iff.mp h; ⟨xs, h1⟩) ho hbase hline
    · cases hb
def bmtOf (n : Str) : Option Bm := if n = "join" then some .join else if n = "split" then some .split else if n = "partition" then some .partition else if n = "strip" then some .strip else none
theorem se_tm1 {b : Bm} {o e : Expr} {io ie : Ex} {n : Str} {id : String} {apos cpos : Pos} {r : V → List V → Hp → VK → Prop} (slot : Slot "str" n id) (hty : typeOf (.builtin id) = pure (.type "method_descriptor")) (hm : MtR X id r)
    (hr : ∀ {m : Mp} {H : Hp} {S S' : Hs} {x z : VV} {v : V} {y : VV} {u : V} {Q : VK}, SimH X.K m H S → R X.K m H x v → R X.K m H y u → bmV b x [y] S = .ok z S' → Post X.K m H z S' Q → r v [u] H Q)
    (hb : ∀ v s u, bmTy b v s = some u → ∃ a, v = .str a) (ho : SE X w cl o io) (ha : SE X w cl e ie) (hn : notStar e = true) (hbase : okBase o = true) (hline : (apos.endLine == cpos.line) = true) : SB X w cl (.Call (.Attribute o n apos) [e] [] cpos) (.bm b io [ie]) := by
  refine sb_of (PE.imp (pe_m1 slot hty hm ho ha (by rw [star_cons hn] <;> rfl) (base_ok hbase) hline) fun σ H Q ⟨m, σv, S, s, q⟩ => ?_) fun _ => rfl
  have q : Res X.K w m H σ ((ev cl io σv S).bind fun v s => (lift (bmTy b v s) s).bind fun _ s => ((ev cl ie σv s).bind fun v s => .ok [v] s).bind fun vs s => bmV b v vs s) fun x S' => Post X.K m H x S' Q := q
  refine rd_then s (q.bind.imp fun x S1 q1 m1 H1 v x1 s1 r1 => ?_)
  obtain ⟨u, S2, e1, q2⟩ := q1.bind.ok (lift_noX _ _)
  obtain ⟨e2, rfl⟩ := lift_eq_ok e1
  obtain ⟨a, rfl⟩ := hb _ _ _ e2
  cases r1
  refine ⟨⟨a, rfl⟩, rd_then s1 ?_⟩
  have q3 : Res X.K w m1 H1 σ ((ev cl ie σv S2).bind fun y s => bmV b (.str a) [y] s) _ := (by rw [Out.bind_assoc] at q2; exact q2.ext x1)
  refine q3.bind.imp fun y S3 q4 m2 H2 u2 x2 s2 r2 => ?_
  obtain ⟨z, S', e3, p⟩ := q4.ok (bmV_noX _ _ _ _)
  exact hr s2.h (.str a) r2 e3 ((p.ext x1).ext x2)
theorem mapO_strs {K : PySem.W.Frag} {m : Mp} {H : Hp} : ∀ {xs : List VV} {us : List V} {ys : List Str}, Rs K m H xs us → mapO strOf xs = some ys → us = ys.map V.str
  | [], _, ys, t, e => by cases t; cases e; rfl
  | x :: xs, _, ys, t, e => by
    cases t with
    | cons r t =>
      unfold mapO at e
      split at e
      · rename_i y zs e1 e2
        cases e
        rw [List.map_cons, ← mapO_strs t e2]
        cases x <;> first | (exfalso; cases e1; done) | skip
        cases e1
        cases r
        rfl
      · cases e
theorem rs_strs {K : PySem.W.Frag} {m : Mp} {H : Hp} : ∀ ys : List Str, Rs K m H (ys.map VV.str) (ys.map V.str)
  | [] => .nil
  | y :: ys => .cons (.str y) (rs_strs ys)
theorem tx_b {b : Bm} (h : b = .join ∨ b = .split ∨ b = .partition ∨ b = .strip) (v : VV) (s : Hs) (u : Unit) (e : bmTy b v s = some u) : ∃ a, v = .str a := by
  rcases h with rfl | rfl | rfl | rfl <;> (cases v <;> first | exact ⟨_, rfl⟩ | cases e)
theorem se_bmt_of {b : Bm} {o e : Expr} {io ie : Ex} {n : Str} {apos cpos : Pos} (hb : bmtOf n = some b) (ho : SE X w cl o io) (ha : SE X w cl e ie) (hn : notStar e = true) (hbase : okBase o = true) (hline : (apos.endLine == cpos.line) = true) : SB X w cl (.Call (.Attribute o n apos) [e] [] cpos) (.bm b io [ie]) := by
  unfold bmtOf at hb
  split at hb
  · rename_i hn'
    cases hb
    subst hn'
    refine se_tm1 F.slot_str_join F.type_str_join mt_join (fun {m H S S' x z v y u Q} h r1 r2 e p => ?_) (fun v s u => tx_b (.inl rfl) v s u) ho ha hn hbase hline
    unfold bmV at e
    split at e <;> try contradiction
    rename_i hx
    cases hx
    split at e
    · rename_i ys hy
      split at e
      · rename_i hl
        cases e
        cases r1
        obtain ⟨xs, h1, h2⟩ := Option.bind_eq_some_iff.mp hy
        obtain ⟨a, us, rfl, q, t⟩ := seq_rd h r2 h1
        obtain rfl := mapO_strs t h2
        exact ⟨_, a, ys, rfl, rfl, q, hl, p.here h (.str _)⟩
      · cases e
    · cases e
  · split at hb
    · rename_i hn'
      cases hb
      subst hn'
      refine se_tm1 F.slot_str_split F.type_str_split mt_split (fun {m H S S' x z v y u Q} h r1 r2 e p => ?_) (fun v s u => tx_b (.inr (.inl rfl)) v s u) ho ha hn hbase hline
      unfold bmV at e
      split at e <;> try contradiction
      rename_i hx
      cases hx
      split at e
      · rename_i hl
        cases r1
        cases r2
        refine ⟨_, _, rfl, rfl, by simpa using hl.1, by rw [← szL_eq]; exact hl.2, ?_⟩
        exact fun q hq => (post_mkL h (rs_strs _) e p).2 q hq
      · cases e
    · split at hb
      · rename_i hn'
        cases hb
        subst hn'
        refine se_tm1 F.slot_str_partition F.type_str_partition mt_partition (fun {m H S S' x z v y u Q} h r1 r2 e p => ?_) (fun v s u => tx_b (.inr (.inr (.inl rfl))) v s u) ho ha hn hbase hline
        unfold bmV at e
        split at e <;> try contradiction
        rename_i hx
        cases hx
        split at e
        · rename_i hl
          cases e
          cases r1
          cases r2
          refine ⟨_, _, rfl, rfl, by simpa using hl.1, by rw [← szL_eq]; exact hl.2, fun q hq => ?_⟩
          exact p m _ _ (Ext.new hq) (h.new hq) (.newT h hq (.cons (.str _) (.cons (.str _) (.cons (.str _) .nil))))
        · cases e
      · split at hb
        · rename_i hn'
          cases hb
          subst hn'
          refine se_tm1 F.slot_str_strip F.type_str_strip mt_stripChars (fun {m H S S' x z v y u Q} h r1 r2 e p => ?_) (fun v s u => tx_b (.inr (.inr (.inr rfl))) v s u) ho ha hn hbase hline
          unfold bmV at e
          split at e <;> try contradiction
          rename_i hx
          cases hx
          split at e
          · rename_i hl
            cases e
            cases r1
            cases r2
            exact ⟨_, _, rfl, rfl, by rw [← szL_eq]; exact hl, p.here h (.str _)⟩
          · cases e
        · cases hb
abbrev Rx := Mp → Hp → VV → Value → Option Ad → Prop
def spIR (K : PySem.W.Frag) (rx : Rx) (cl : Cl) (id : String) (ar : Nat) : Sp := fun vs H Q E => ∃ (keep : Bool) (m : Mp) (S : Hs) (xs : List VV), xs.length = ar ∧ SimH K m H S ∧ Rs K m H xs vs ∧
  Res K ⟨fun c d _ H' => E c d H', rx⟩ m H [] (cl keep id xs S) fun x S' => Post K m H x S' Q
structure CallOk (X : Cx) (rx : Rx) (cl : Cl) (x : Str) (id : String) (ps : List Str) : Prop where
  ex : ∃ (k : Nat) (f : Addr) (fd : FuncData), FnG X.prog X.w X.K X.mg X.base (L2.CX X.prog X.w) k f fd ps (spIR X.K rx cl id ps.length) ∧ FdOk fd ps ∧ Room k X.A ∧ X.mg x = some (.ref f) ∧ PySem.W.keepIn X.K (.ref f) = true
theorem evs_append (irs irs2 : List Ex) (σ : Sv) (s : Hs) : evs cl (irs ++ irs2) σ s = (evs cl irs σ s).bind fun xs s => (evs cl irs2 σ s).bind fun ys s => .ok (xs ++ ys) s := by
  induction irs generalizing s with
  | nil =>
    show evs cl irs2 σ s = (Out.ok [] s).bind _
    simp only [Out.bind_ok, List.nil_append]
    cases evs cl irs2 σ s <;> rfl
  | cons i irs ih =>
    show (ev cl i σ s).bind _ = ((ev cl i σ s).bind _).bind _
    rw [Out.bind_assoc]
    congr 1
    funext v s1
    show (evs cl (irs ++ irs2) σ s1).bind _ = _
    rw [ih, Out.bind_assoc, Out.bind_assoc]
    congr 1
    funext xs s2
    rw [Out.bind_assoc]
    simp only [Out.bind_ok]
    rfl
def SK (X : Cx) (w : Wish) (cl : Cl) (kws : List Keyword) (irs : List Ex) : Prop := PK X kws (rdA X.K w (evs cl irs))
theorem sk_nil : SK X w cl [] [] := ⟨fun pos pins s σ H Q I ⟨m, σv, S, s', e⟩ => pk_nil.run pos pins s σ H Q I (by
  have e : Posts X.K m H [] S Q := e
  exact e m H [] Ext.refl s'.h .nil)⟩
theorem sk_cons {nm : Option Str} {e : Expr} {kpos : Pos} {kws : List Keyword} {ir : Ex} {irs : List Ex} (h : SE X w cl e ir) (t : SK X w cl kws irs) : SK X w cl (⟨nm, e, kpos⟩ :: kws) (ir :: irs) :=
  ⟨fun pos pins s0 σ H Q I ⟨m, σv, S, s, q⟩ => (pk_cons (nm := nm) (kpos := kpos) h t).run pos pins s0 σ H Q I (by
    have q : Res X.K w m H σ ((ev cl ir σv S).bind fun v s => (evs cl irs σv s).bind fun vs s => .ok (v :: vs) s) _ := q
    refine rd_then s (q.bind.imp fun x S1 q1 m1 H1 v x1 s1 r1 => rd_thenA s1 ((q1.bind.ext x1).imp fun xs S2 q2 m2 H2 vs x2 s2 r2 => ?_))
    have q2 : Posts X.K m H (x :: xs) S2 Q := q2
    exact q2 m2 H2 (v :: vs) (x1.trans x2) s2.h (.cons (r1.ext x2) r2))⟩
theorem kw_all {pos : Pos} : ∀ {kws : List Keyword}, (∀ k ∈ kws, k.arg.isSome = true) → (backToKw pos (keywordEach kws X.env)).all (·.1.isSome) = true ∧ (backToKw pos (keywordEach kws X.env)).any (·.1.isNone) = false ∧
    (backToKw pos (keywordEach kws X.env)).filterMap (·.1) = kws.filterMap (·.arg)
  | [], _ => ⟨rfl, rfl, rfl⟩
  | ⟨nm, v, kp⟩ :: kws, h => by
    obtain ⟨h1, h2, h3⟩ := kw_all (pos := pos) (kws := kws) fun k hk => h k (List.mem_cons_of_mem _ hk)
    have h0 : nm.isSome = true := h ⟨nm, v, kp⟩ List.mem_cons_self
    obtain ⟨n, rfl⟩ := Option.isSome_iff_exists.mp h0
    refine ⟨?_, ?_, ?_⟩
    · show (true && (backToKw pos (keywordEach kws X.env)).all (·.1.isSome)) = true
      rw [h1]; rfl
    · show (false || (backToKw pos (keywordEach kws X.env)).any (·.1.isNone)) = false
      rw [h2]; rfl
    · show n :: (backToKw pos (keywordEach kws X.env)).filterMap (·.1) = n :: kws.filterMap (·.arg)
      rw [h3]
theorem Rs.pick {K : PySem.W.Frag} {m : Mp} {H : Hp} (perm : List Nat) {xs : List VV} {vs : List V} (t : Rs K m H xs vs) : Rs K m H (pick perm xs) (pick perm vs) := by
  induction perm with
  | nil => exact .nil
  | cons i perm ih =>
    unfold Tw.pick at ih ⊢
    rw [List.filterMap_cons, List.filterMap_cons]
    cases e1 : xs[i]? with
    | none =>
      have : vs[i]? = none := List.getElem?_eq_none_iff.mpr (by rw [← t.length]; exact List.getElem?_eq_none_iff.mp e1)
      rw [this]
      exact ih
    | some a =>
      obtain ⟨b, hb, rb⟩ := t.get e1
      rw [hb]
      exact .cons rb ih
theorem perm_len {ps : List Str} {np : Nat} {ks : List Str} {perm : List Nat} (h : permOf ps np ks = some perm) : np + ks.length = ps.length ∧ ∀ {α : Type} {xs : List α}, xs.length = ps.length → (pick perm xs).length = ps.length := by
  unfold permOf at h
  split at h
  · rename_i hc
    obtain ⟨c1, c2, c3, c4, c5, c6⟩ := hc
    cases h
    refine ⟨by rw [List.length_append, List.length_take] at c4; omega, fun {α xs} hx => ?_⟩
    have : ∀ qs : List Str, (∀ p ∈ qs, p ∈ ps.take np ++ ks) → (pick (qs.map fun p => (ps.take np ++ ks).idxOf p) xs).length = qs.length := by
      intro qs
      induction qs with
      | nil => intro _; rfl
      | cons q qs ih =>
        intro hq
        have h1 := List.idxOf_lt_length_of_mem (hq q List.mem_cons_self)
        have h2 : (ps.take np ++ ks).idxOf q < xs.length := by omega
        have ih := ih fun p hp => hq p (List.mem_cons_of_mem _ hp)
        unfold pick at ih ⊢
        rw [List.map_cons, List.filterMap_cons, List.getElem?_eq_getElem h2]
        exact congrArg (· + 1) ih
    exact this ps fun p hp => by simpa using List.all_eq_true.mp c5 p hp
  · cases h
theorem kw_len : ∀ {kws : List Keyword}, (∀ k ∈ kws, k.arg.isSome = true) → (kws.filterMap (·.arg)).length = kws.length
  | [], _ => rfl
  | a :: kws, hk => by
    obtain ⟨n, hn⟩ := Option.isSome_iff_exists.mp (hk a List.mem_cons_self)
    rw [List.filterMap_cons, hn]
    exact congrArg (· + 1) (kw_len fun k h => hk k (List.mem_cons_of_mem _ h))
theorem call_core {x : Str} {id : String} {ps ks : List Str} {perm : List Nat} {p pos : Pos} {es : List Expr} {kws : List Keyword} {irs irs2 : List Ex} {keep : Bool} {α : Type} (tk : Takes X w.W) (hgu : X.A.guards = some []) (F : CallOk X w.rx cl x id ps) (hgl : Gl X x) (hd : (x == ("__debug__" : Str)) = false)
    (hs : ∀ e ∈ es, notStar e = true) (hk : ∀ k ∈ kws, k.arg.isSome = true) (hks : kws.filterMap (·.arg) = ks) (hp : permOf ps es.length ks = some perm) (ha : SA X w cl es irs) (hkw : SK X w cl kws irs2) (h1 : irs.length = es.length) (h2 : irs2.length = kws.length) :
    PE X (.Call (.Name x p) es kws pos) (rdE X.K w fun σ s => (evs cl (irs ++ irs2) σ s).bind fun vs s => cl keep id (pick perm vs) s) := by
  obtain ⟨k, f, fd, FG, hf, hr, hm, hkp⟩ := F.ex
  obtain ⟨ka, kn, kf⟩ := kw_all (X := X) (pos := pos) hk
  have lenA : ∀ {es : List Ex} {σ : Sv} {s s' : Hs} {xs : List VV}, evs cl es σ s = .ok xs s' → xs.length = es.length := by
    intro es
    induction es with
    | nil => intro σ s s' xs e; cases e; rfl
    | cons i es ih =>
      intro σ s s' xs e
      obtain ⟨v, s1, e1, e⟩ := Out.bind_eq_ok (show (ev cl i σ s).bind _ = _ from e)
      obtain ⟨vs, s2, e2, e⟩ := Out.bind_eq_ok e
      cases e
      rw [List.length_cons, ih e2, List.length_cons]
  refine ⟨fun pins s σ H Q I ⟨m, σv, S, st, q⟩ => ?_⟩
  refine wpAny_Call_Name_kw (ld_glob I hgl hm ?_ hd)
  have q : Res X.K w m H σ ((evs cl (irs ++ irs2) σv S).bind fun vs s => cl keep id (pick perm vs) s) fun x S' => Post X.K m H x S' Q := q
  rw [evs_append, Out.bind_assoc] at q
  -- what is wanted behind the positional arguments
  have body : ∀ us s1, AP X pins σ (fun vs H1 => rdA X.K w (evs cl irs2) σ H1 fun zs H2 => vs.length = es.length ∧ zs.length = kws.length ∧ spIR X.K w.rx cl id ps.length (pick perm (vs ++ zs)) H2 Q fun c d H' => w.W c d σ H') us s1 →
      wpAny (model X.prog X.w) X.A (evalAll ((backToKw pos (keywordEach kws X.env)).map (·.2))) (fun ws s2 => X.K.In s2.heap ∧ wpAny (model X.prog X.w) X.A (PySem.call (.ref f) us (((backToKw pos (keywordEach kws X.env)).filterMap (·.1)).zip ws)) (EP X pins σ Q) X.xe s2) X.xe s1 := by
    rintro us s1 ⟨vs, H1, I1, r1, q1⟩
    refine thn (hkw.run pos pins s1 σ H1 _ I1 q1) fun ws s2 ⟨zs, H2, I2, rz, l1, l2, q2⟩ => ⟨I2.kIn, ?_⟩
    rw [kf, hks]
    refine run_kw FG hf hr hgu (fun e s' hq => tk e s' (XE.of_call I2 (fun _ _ _ z => z) hq)) ?_ ?_ I2 r1 rz q2
    · rw [← r1.length, l1]; exact hp
    · rw [← rz.length, l2, ← hks, kw_len hk]
  have red : rdA X.K w (evs cl irs) σ H fun vs H1 => rdA X.K w (evs cl irs2) σ H1 fun zs H2 => vs.length = es.length ∧ zs.length = kws.length ∧ spIR X.K w.rx cl id ps.length (pick perm (vs ++ zs)) H2 Q fun c d H' => w.W c d σ H' := by
    refine rd_thenA st ?_
    have q' := q.bind
    cases e1 : evs cl irs σv S with
    | bad => rw [e1] at q'; exact q'.elim
    | exc v s1 => rw [e1] at q'; exact q'
    | ok xs S1 =>
      rw [e1] at q'
      intro m1 H1 vs x1 s1 r1
      have q1 : Res X.K w m H σ (((evs cl irs2 σv S1).bind fun ys s => .ok (xs ++ ys) s).bind fun vs s => cl keep id (pick perm vs) s) _ := q'
      rw [Out.bind_assoc] at q1
      refine rd_thenA s1 ?_
      have q2 := (q1.bind.ext x1)
      cases e2 : evs cl irs2 σv S1 with
      | bad => rw [e2] at q2; exact q2.elim
      | exc v s2 => rw [e2] at q2; exact q2
      | ok ys S2 =>
        rw [e2] at q2
        intro m2 H2 zs x2 s2 r2
        have q3 : Res X.K w m H σ (cl keep id (pick perm (xs ++ ys)) S2) fun x S' => Post X.K m H x S' Q := q2
        have lx := lenA e1
        have ly := lenA e2
        have lv := r1.length
        have lz := r2.length
        refine ⟨by omega, by omega, keep, m2, S2, pick perm (xs ++ ys), ?_, s2.h, Rs.pick perm ((r1.ext x2).append r2), ?_⟩
        · refine (perm_len hp).2 ?_
          have := (perm_len hp).1
          have hkl : ks.length = kws.length := by rw [← hks, kw_len hk]
          rw [List.length_append]
          omega
        · have q4 := ((q3.ext x1).ext x2).imp fun z S' (p : Post X.K m H z S' Q) => Post.ext x2 (Post.ext x1 p)
          cases e3 : cl keep id (pick perm (xs ++ ys)) S2 with
          | bad => rw [e3] at q4; exact q4.elim
          | ok z S3 => rw [e3] at q4; exact q4
          | exc z S3 => rw [e3] at q4; exact q4
  cases es with
  | nil =>
    refine PySem.W.callWith_KW0 (h₀ := X.base) I.ok.mod.kin hkp ka ?_ (by rw [kn]; rfl)
    cases irs with
    | cons _ _ => cases h1
    | nil =>
      obtain ⟨m2, σ2, S2, st2, q2⟩ := red
      have q2 : Posts X.K m2 H [] S2 _ := q2
      exact body [] s ⟨[], H, I, .nil, q2 m2 H [] Ext.refl st2.h .nil⟩
  | cons e es =>
    refine PySem.W.callWith_KW (h₀ := X.base) I.ok.mod.kin hkp ka ?_ ?_ (star_cons (hs e List.mem_cons_self))
    · exact thn (ha.run pos pins s σ H _ I red) fun us s1 z => body us s1 z
    · rw [kn, star_plain hs]; rfl
theorem se_callk {x : Str} {id : String} {ps ks : List Str} {perm : List Nat} {p pos : Pos} {es : List Expr} {kws : List Keyword} {irs irs2 : List Ex} {keep : Bool} (tk : Takes X w.W) (hgu : X.A.guards = some []) (F : CallOk X w.rx cl x id ps) (hgl : Gl X x) (hd : (x == ("__debug__" : Str)) = false)
    (hs : ∀ e ∈ es, notStar e = true) (hk : ∀ k ∈ kws, k.arg.isSome = true) (hks : kws.filterMap (·.arg) = ks) (hp : permOf ps es.length ks = some perm) (ha : SA X w cl es irs) (hkw : SK X w cl kws irs2) (h1 : irs.length = es.length) (h2 : irs2.length = kws.length) :
    SB X w cl (.Call (.Name x p) es kws pos) (.callk keep id perm (irs ++ irs2)) :=
  sb_of (PE.imp (call_core (α := Unit) (keep := keep) tk hgu F hgl hd hs hk hks hp ha hkw h1 h2) fun σ H Q q => q) fun _ => rfl
theorem se_call {x : Str} {id : String} {ps : List Str} {p pos : Pos} {es : List Expr} {irs : List Ex} {keep : Bool} (tk : Takes X w.W) (hgu : X.A.guards = some []) (F : CallOk X w.rx cl x id ps) (hgl : Gl X x) (hd : (x == ("__debug__" : Str)) = false)
    (hs : ∀ e ∈ es, notStar e = true) (hp : permOf ps es.length [] = some (List.range es.length)) (ha : SA X w cl es irs) (h1 : irs.length = es.length) :
    SB X w cl (.Call (.Name x p) es [] pos) (.call keep id irs) := by
  refine sb_of (PE.imp (call_core (α := Unit) (keep := keep) tk hgu F hgl hd hs (by simp) rfl hp ha sk_nil h1 rfl) fun σ H Q ⟨m, σv, S, s, q⟩ => ⟨m, σv, S, s, ?_⟩) fun _ => rfl
  have q : Res X.K w m H σ ((evs cl irs σv S).bind fun vs s => cl keep id vs s) fun x S' => Post X.K m H x S' Q := q
  rw [List.append_nil]
  refine Res.of_bind ?_
  have lenA : ∀ {es : List Ex} {σ : Sv} {s s' : Hs} {xs : List VV}, evs cl es σ s = .ok xs s' → xs.length = es.length := by
    intro es
    induction es with
    | nil => intro σ s s' xs e; cases e; rfl
    | cons i es ih =>
      intro σ s s' xs e
      obtain ⟨v, s1, e1, e⟩ := Out.bind_eq_ok (show (ev cl i σ s).bind _ = _ from e)
      obtain ⟨vs, s2, e2, e⟩ := Out.bind_eq_ok e
      cases e
      rw [List.length_cons, ih e2, List.length_cons]
  have q' := q.bind
  cases e1 : evs cl irs σv S with
  | bad => rw [e1] at q'; exact q'.elim
  | exc v s1 => rw [e1] at q'; exact q'
  | ok xs S1 =>
    rw [e1] at q'
    have q2 : Res X.K w m H σ (cl keep id xs S1) _ := q'
    show Res X.K w m H σ (cl keep id (pick (List.range es.length) xs) S1) _
    rw [pick_take, List.take_of_length_le (by rw [lenA e1, h1]; exact Nat.le_refl _)]
    exact q2
end
end Tw
set_option Elab.async false
set_option linter.all false
set_option autoImplicit false
set_option maxRecDepth 100000
namespace Tw
open PySem PySem.Spec PyProof.Rows L2
section
variable {X : Cx} {w : Wish} {cl : Cl}
theorem few_okk {es : List Expr} {kws : List Keyword} {cpos : Pos} (h : ∀ e ∈ es, notStar e = true) (hk : ∀ k ∈ kws, k.arg.isSome = true) (hl : es.length + kws.length < 29) : methodCallForm (es.length + kws.length) (backTo cpos (starEach es X.env)) (backToKw cpos (keywordEach kws X.env)) = true := by
  have h0 := few_ok (X := X) (cpos := cpos) h (by omega)
  simp only [Bool.and_eq_true] at h0
  unfold methodCallForm
  simp only [Bool.and_eq_true, decide_eq_true_eq]
  refine ⟨⟨h0.1.1, (kw_all hk).1⟩, ?_⟩
  split <;> omega
theorem wpAny_meth {o : Expr} {n : Str} {apos pos : Pos} {es : List Expr} {kws : List Keyword} {s : Shared} {Q E : Value → Shared → Prop} {A : Around} {M : Model} (hbase : attributeBase o n X.env (eval o X.env) = eval o X.env)
    (hform : methodCallForm (es.length + kws.length) (backTo pos (starEach es X.env)) (backToKw pos (keywordEach kws X.env)) = true) (hline : (apos.endLine == pos.line) = true)
    (h : wpAny M A (eval o X.env) (fun ov s₁ => wpAny M A (getMethod ov n (do return (← importBound o X.env).getD true)) (fun fx s₂ => wpAny M A (callWith pos fx.1 fx.2 (backTo pos (starEach es X.env)) (backToKw pos (keywordEach kws X.env))) Q E s₂) E s₁) E s) :
    wpAny M A (eval (.Call (.Attribute o n apos) es kws pos) X.env) Q E s := by
  rw [arm_eval_Call, hbase]
  refine wpAny_bind (wpAny_mono h (fun ov s₁ h₁ => ?_) fun _ _ e => e)
  refine wpAny_bind (wpAny_standAt ?_)
  have hpos : methodCallPos true o X.env apos pos = pure pos := by unfold methodCallPos; simp [hline]
  unfold methodCall
  rw [hform]
  refine wpAny_bind (wpAny_holding (wpAny_mono h₁ (fun fx s₂ h₂ => ?_) fun _ _ x => x))
  exact wpAny_bind (wpAny_of_eq hpos h₂)
theorem evs_lenA : ∀ {es : List Ex} {σ : Sv} {s s' : Hs} {xs : List VV}, evs cl es σ s = .ok xs s' → xs.length = es.length := by
  intro es
  induction es with
  | nil => intro σ s s' xs e; cases e; rfl
  | cons i es ih =>
    intro σ s s' xs e
    obtain ⟨v, s1, e1, e⟩ := Out.bind_eq_ok (show (ev cl i σ s).bind _ = _ from e)
    obtain ⟨vs, s2, e2, e⟩ := Out.bind_eq_ok e
    cases e
    rw [List.length_cons, ih e2, List.length_cons]
structure MethOk (X : Cx) (rx : Rx) (cl : Cl) (c : String) (n : Str) (id : String) (ps : List Str) : Prop where
  ex : ∃ (k : Nat) (f : Addr) (fd : FuncData), FnG X.prog X.w X.K X.mg X.base (L2.CX X.prog X.w) k f fd ps (spIR X.K rx cl id ps.length) ∧ FdOk fd ps ∧ Room k X.A ∧ Cls X.K (kA X.K c) ∧ Meth X.K (kA X.K c) n f
structure MakeOk (X : Cx) (rx : Rx) (cl : Cl) (c : String) (id : String) (ps : List Str) : Prop where
  ex : ∃ (k : Nat) (f : Addr) (fd : FuncData), FnG X.prog X.w X.K X.mg X.base (L2.CX X.prog X.w) k f fd ps (spIR X.K rx cl id ps.length) ∧ FdOk fd ps ∧ Room (k + 1) X.A ∧ KcG X.K c ∧ Mk X.K (kA X.K c) f ∧ X.mg (Str.ofString c) = some (.ref (kA X.K c))
theorem args_core {es : List Expr} {kws : List Keyword} {irs irs2 : List Ex} {m0 : Mp} {σv : Sv} {S0 : Hs} {σ : L2.St} {H0 : Hp} {g : List VV → Hs → Out VV} {kk : VV → Hs → Prop} {P : List V → List V → Hp → Prop}
    (hk : ∀ k ∈ kws, k.arg.isSome = true) (h1 : irs.length = es.length) (h2 : irs2.length = kws.length)
    (st : Sit X.K m0 σv S0 σ H0) (q : Res X.K w m0 H0 σ ((evs cl (irs ++ irs2) σv S0).bind fun vs s => g vs s) kk)
    (fin : ∀ (m2 : Mp) (H2 : Hp) (S2 : Hs) (xs ys : List VV) (vs zs : List V), Ext m0 H0 m2 H2 → Sit X.K m2 σv S2 σ H2 → Rs X.K m2 H2 xs vs → Rs X.K m2 H2 ys zs → xs.length = es.length → ys.length = kws.length → Res X.K w m0 H0 σ (g (xs ++ ys) S2) kk → P vs zs H2) :
    rdA X.K w (evs cl irs) σ H0 fun vs H1 => rdA X.K w (evs cl irs2) σ H1 fun zs H2 => P vs zs H2 := by
  rw [evs_append, Out.bind_assoc] at q
  refine rd_thenA st ?_
  have q' := q.bind
  cases e1 : evs cl irs σv S0 with
  | bad => rw [e1] at q'; exact q'.elim
  | exc v s1 => rw [e1] at q'; exact q'
  | ok xs S1 =>
    rw [e1] at q'
    intro m1 H1 vs x1 s1 r1
    have q1 : Res X.K w m0 H0 σ (((evs cl irs2 σv S1).bind fun ys s => .ok (xs ++ ys) s).bind fun vs s => g vs s) kk := q'
    rw [Out.bind_assoc] at q1
    refine rd_thenA s1 ?_
    have q2 := (q1.bind.ext x1)
    have q2' := q1.bind
    cases e2 : evs cl irs2 σv S1 with
    | bad => rw [e2] at q2; exact q2.elim
    | exc v s2 => rw [e2] at q2; exact q2
    | ok ys S2 =>
      rw [e2] at q2'
      intro m2 H2 zs x2 s2 r2
      exact fin m2 H2 S2 xs ys vs zs (x1.trans x2) s2 (r1.ext x2) r2 (by rw [evs_lenA e1, h1]) (by rw [evs_lenA e2, h2]) q2'
theorem meth_core {c : String} {n : Str} {id : String} {ps ks : List Str} {perm : List Nat} {o : Expr} {apos pos : Pos} {es : List Expr} {kws : List Keyword} {io : Ex} {irs irs2 : List Ex} {keep : Bool} (tk : Takes X w.W) (hgu : X.A.guards = some []) (F : MethOk X w.rx cl c n id ps) (ho : SE X w cl o io) (hbase : okBase o = true) (hline : (apos.endLine == pos.line) = true) (hl : es.length + kws.length < 29)
    (hs : ∀ e ∈ es, notStar e = true) (hk : ∀ k ∈ kws, k.arg.isSome = true) (hks : kws.filterMap (·.arg) = ks) (hp : permOf ps (es.length + 1) ks = some perm) (ha : SA X w cl es irs) (hkw : SK X w cl kws irs2) (h1 : irs.length = es.length) (h2 : irs2.length = kws.length) :
    PE X (.Call (.Attribute o n apos) es kws pos) (rdE X.K w (ev cl (.meth keep c n id perm io (irs ++ irs2)))) := by
  obtain ⟨k, f, fd, FG, hf, hr, C, M⟩ := F.ex
  obtain ⟨ka, kn, kf⟩ := kw_all (X := X) (pos := pos) hk
  refine ⟨fun pins s σ H Q I ⟨m, σv, S, st, q⟩ => ?_⟩
  refine wpAny_meth (base_ok hbase) (few_okk hs hk hl) hline ?_
  have q : Res X.K w m H σ ((ev cl io σv S).bind fun v s => (lift (isObj c n v s) s).bind fun _ s => (evs cl (irs ++ irs2) σv s).bind fun vs s => cl keep id (perm.filterMap fun i => (v :: vs)[i]?) s) fun x S' => Post X.K m H x S' Q := q
  have go : rdE X.K w (ev cl io) σ H fun x H1 => ∃ (a dx : Ad) (gs : List (Str × V)), x = V.ref a ∧ H1 a = some (.ins (kA X.K c) dx gs) ∧ gs.lookup n = none ∧
      (rdA X.K w (evs cl irs) σ H1 fun vs H2 => rdA X.K w (evs cl irs2) σ H2 fun zs H3 => vs.length = es.length ∧ zs.length = kws.length ∧ spIR X.K w.rx cl id ps.length (pick perm ((V.ref a :: vs) ++ zs)) H3 Q fun c d H' => w.W c d σ H') := by
    refine rd_then st (q.bind.imp fun x S1 q1 m1 H1 v x1 s1 r1 => ?_)
    obtain ⟨u, S2, e2, q2⟩ := q1.bind.ok (lift_noX _ _)
    obtain ⟨e3, rfl⟩ := lift_eq_ok e2
    unfold isObj at e3
    split at e3
    · rename_i k0
      split at e3
      · rename_i d0 fs es0
        split at e3
        · rename_i hc
          obtain ⟨rfl, hn⟩ := hc
          cases r1 with
          | ref hk0 =>
            rename_i a
            obtain ⟨dx, gs, g1, g2, g3, g4⟩ := s1.h.obj k0 _ a es0 hk0
            refine ⟨a, dx, gs, rfl, g1, look_none g3 hn, ?_⟩
            refine args_core (kk := fun x S' => Post X.K m1 H1 x S' Q) hk h1 h2 s1 ((q2.ext x1).imp fun z S' p => Post.ext x1 p) fun m2 H2 S3 xs ys vs zs x2 s2 t1 t2 l1 l2 q3 => ?_
            have lv := t1.length
            have lz := t2.length
            refine ⟨by omega, by omega, keep, m2, S3, pick perm ((.ref k0 :: xs) ++ ys), ?_, s2.h, Rs.pick perm ((Rs.cons (R.ref hk0 |>.ext x2) t1).append t2), ?_⟩
            · refine (perm_len hp).2 ?_
              have := (perm_len hp).1
              have hkl : ks.length = kws.length := by rw [← hks, kw_len hk]
              rw [List.length_append, List.length_cons]
              omega
            · have q4 := (q3.ext x2).imp fun z S' (p : Post X.K m1 H1 z S' Q) => Post.ext x2 p
              have q4 : Res X.K w m2 H2 σ (cl keep id (pick perm ((.ref k0 :: xs) ++ ys)) S3) fun z S' => Post X.K m2 H2 z S' Q := q4
              cases e5 : cl keep id (pick perm ((.ref k0 :: xs) ++ ys)) S3 with
              | bad => rw [e5] at q4; exact q4.elim
              | ok z S3 => rw [e5] at q4; exact q4
              | exc z S3 => rw [e5] at q4; exact q4
        · cases e3
      · cases e3
    · cases e3
  refine thn (ho.run pins s σ H _ I go) fun u s1 ⟨x, H1, I1, rx, a, dx, gs, ex, ea, hn, q1⟩ => ?_
  subst ex
  obtain rfl : u = Value.ref a := rx
  refine getmeth_ok I1 ea C M hn ?_
  have body : ∀ us s1, AP X pins σ (fun vs H1 => rdA X.K w (evs cl irs2) σ H1 fun zs H2 => vs.length = es.length ∧ zs.length = kws.length ∧ spIR X.K w.rx cl id ps.length (pick perm ((V.ref a :: vs) ++ zs)) H2 Q fun c d H' => w.W c d σ H') us s1 →
      wpAny (model X.prog X.w) X.A (evalAll ((backToKw pos (keywordEach kws X.env)).map (·.2))) (fun ws s2 => X.K.In s2.heap ∧ wpAny (model X.prog X.w) X.A (PySem.call (.ref f) ([.ref a] ++ us) (((backToKw pos (keywordEach kws X.env)).filterMap (·.1)).zip ws)) (EP X pins σ Q) X.xe s2) X.xe s1 := by
    rintro us s1 ⟨vs, H1, I1, r1, q1⟩
    refine thn (hkw.run pos pins s1 σ H1 _ I1 q1) fun ws s2 ⟨zs, H2, I2, rz, l1, l2, q2⟩ => ⟨I2.kIn, ?_⟩
    rw [kf, hks]
    have r1' : Vals (V.ref a :: vs) (Value.ref a :: us) := .cons rfl r1
    refine run_kw FG hf hr hgu (fun e s' hq => tk e s' (XE.of_call I2 (fun _ _ _ z => z) hq)) ?_ ?_ I2 r1' rz q2
    · show permOf ps (us.length + 1) ks = some perm
      rw [← r1.length, l1]; exact hp
    · rw [← rz.length, l2, ← hks, kw_len hk]
  cases es with
  | nil =>
    refine PySem.W.callWith_KW0 (first := [.ref a]) (h₀ := X.base) I.ok.mod.kin M.kp ka ?_ (by rw [kn]; rfl)
    cases irs with
    | cons _ _ => cases h1
    | nil =>
      obtain ⟨m2, σ2, S2, st2, q2⟩ := q1
      have q2 : Posts X.K m2 H1 [] S2 _ := q2
      exact body [] s1 ⟨[], H1, I1, .nil, q2 m2 H1 [] Ext.refl st2.h .nil⟩
  | cons e es =>
    refine PySem.W.callWith_KW (first := [.ref a]) (h₀ := X.base) I.ok.mod.kin M.kp ka ?_ ?_ (star_cons (hs e List.mem_cons_self))
    · exact thn (ha.run pos pins s1 σ H1 _ I1 q1) fun us s2 z => body us s2 z
    · rw [kn, star_plain hs]; rfl
theorem se_meth {c : String} {n : Str} {id : String} {ps ks : List Str} {perm : List Nat} {o : Expr} {apos pos : Pos} {es : List Expr} {kws : List Keyword} {io : Ex} {irs irs2 : List Ex} {keep : Bool} (tk : Takes X w.W) (hgu : X.A.guards = some []) (F : MethOk X w.rx cl c n id ps) (ho : SE X w cl o io) (hbase : okBase o = true) (hline : (apos.endLine == pos.line) = true) (hl : es.length + kws.length < 29)
    (hs : ∀ e ∈ es, notStar e = true) (hk : ∀ k ∈ kws, k.arg.isSome = true) (hks : kws.filterMap (·.arg) = ks) (hp : permOf ps (es.length + 1) ks = some perm) (ha : SA X w cl es irs) (hkw : SK X w cl kws irs2) (h1 : irs.length = es.length) (h2 : irs2.length = kws.length) :
    SB X w cl (.Call (.Attribute o n apos) es kws pos) (.meth keep c n id perm io (irs ++ irs2)) :=
  sb_of (meth_core tk hgu F ho hbase hline hl hs hk hks hp ha hkw h1 h2) fun _ => rfl
theorem run_mk {c : String} {ps ks : List Str} {perm : List Nat} {pins : List (Addr × Obj)} {σ : L2.St} {H : Hp} {s : Shared} {Q : VK} {E : XK} {us ws : List Value} {vs zs : List V} {k : Nat} {f : Addr} {fd : FuncData} {sp : Sp} (M : Mk X.K (kA X.K c) f) (F : FnG X.prog X.w X.K X.mg X.base (L2.CX X.prog X.w) k f fd ps sp) (hf : FdOk fd ps) (hr : Room (k + 1) X.A) (hg : X.A.guards = some [])
    (hx : ∀ (H : Hp) (s : Shared) (e : Value) (s' : Shared), Inv X pins σ H s → L2.CX X.prog X.w X.stack H s E e s' → X.xe e s') (hp : permOf ps (us.length + 1) ks = some perm) (hw : ws.length = ks.length) (I : Inv X pins σ H s) (r : Vals vs us) (rz : Vals zs ws)
    (h : ∀ x dx, H x = none → H dx = none → dx ≠ x → sp (pick perm ((.ref x :: vs) ++ zs)) (upd (upd H dx (.own x)) x (.ins (kA X.K c) dx [])) (fun v H2 => v = .non ∧ Q (.ref x) H2) E) :
    wpAny (model X.prog X.w) X.A (PySem.call (.ref (kA X.K c)) us (ks.zip ws)) (EP X pins σ Q) X.xe s := by
  have hq := h (s.heap.objs.size + 1) s.heap.objs.size (I.hok.fresh (Nat.le_succ _)) (I.hok.fresh (Nat.le_refl _)) (Nat.ne_of_lt (Nat.lt_succ_self _))
  have I2 := Inv.made (C := kA X.K c) I
  have r1 : Vals (V.ref (s.heap.objs.size + 1) :: vs) (Value.ref (s.heap.objs.size + 1) :: us) := .cons rfl r
  have rel : ∀ (perm : List Nat) {as : List V} {bs : List Value}, Vals as bs → Vals (pick perm as) (pick perm bs) := by
    intro perm as bs r
    induction perm with
    | nil => exact .nil
    | cons i perm ih =>
      unfold pick at ih ⊢
      rw [List.filterMap_cons, List.filterMap_cons]
      cases e1 : as[i]? with
      | none =>
        rw [r.none_of e1]
        exact ih
      | some a =>
        obtain ⟨b, hb, rb⟩ := r.get e1
        rw [hb]
        exact .cons rb ih
  have gg : (X.A.under (.builtin "type.__call__" ⟨.ref (kA X.K c) :: us, ks.zip ws⟩)).guards = some [] := by
    first | exact hg | simpa [Around.under, Code.envs, Code.isFrame, Code.isGuard, guardIds] using hg
  refine wpAny_call (make_map (f := f) I.kIn M.makes M.init (beq_iff_eq.mp M.fn) (codeAny_mono (F.run _ X.stack _ _ ⟨Value.ref (s.heap.objs.size + 1) :: us, ks.zip ws⟩ (pick perm ((Value.ref (s.heap.objs.size + 1) :: us) ++ ws)) _ _ E (hr.make _ us (ks.zip ws)) gg
    (I2.env0.make _ us (ks.zip ws)) (binds_kw hf hp hw) (rel perm (r1.append rz)) hq) fun r s' hq' => ?_))
  cases r with
  | error e => exact hx _ _ e s' I2 hq'
  | ok fl =>
    cases fl with
    | ret u =>
      obtain ⟨v, H', I3, rv, ev, q3⟩ := I2.after hq'
      subst ev
      exact ⟨rv, ⟨V.ref (s.heap.objs.size + 1), H', I3, rfl, q3⟩⟩
    | next => exact False.elim hq'
    | brk => exact False.elim hq'
    | cont => exact False.elim hq'
theorem mk_core {c : String} {id : String} {x : Str} {ps ks : List Str} {perm : List Nat} {p pos : Pos} {es : List Expr} {kws : List Keyword} {irs irs2 : List Ex} (tk : Takes X w.W) (hgu : X.A.guards = some []) (F : MakeOk X w.rx cl c id ps) (hx : x = Str.ofString c) (hgl : Gl X x) (hd : (x == ("__debug__" : Str)) = false)
    (hs : ∀ e ∈ es, notStar e = true) (hk : ∀ k ∈ kws, k.arg.isSome = true) (hks : kws.filterMap (·.arg) = ks) (hp : permOf ps (es.length + 1) ks = some perm) (ha : SA X w cl es irs) (hkw : SK X w cl kws irs2) (h1 : irs.length = es.length) (h2 : irs2.length = kws.length) :
    PE X (.Call (.Name x p) es kws pos) (rdE X.K w (ev cl (.mk c id perm (irs ++ irs2)))) := by
  obtain ⟨k, f, fd, FG, hf, hr, G, M, hm⟩ := F.ex
  rw [← hx] at hm
  obtain ⟨ka, kn, kf⟩ := kw_all (X := X) (pos := pos) hk
  refine ⟨fun pins s σ H Q I ⟨m, σv, S, st, q⟩ => ?_⟩
  refine wpAny_Call_Name_kw (ld_glob I hgl hm ?_ hd)
  have q : Res X.K w m H σ ((evs cl (irs ++ irs2) σv S).bind fun vs s => (cl true id (perm.filterMap fun i => (VV.ref s.length :: vs)[i]?) (s ++ [.obj c []])).bind fun x s1 => madeV s.length x s1) fun x S' => Post X.K m H x S' Q := q
  have red : rdA X.K w (evs cl irs) σ H fun vs H1 => rdA X.K w (evs cl irs2) σ H1 fun zs H2 => vs.length = es.length ∧ zs.length = kws.length ∧
      ∀ a dx, H2 a = none → H2 dx = none → dx ≠ a → spIR X.K w.rx cl id ps.length (pick perm ((V.ref a :: vs) ++ zs)) (upd (upd H2 dx (.own a)) a (.ins (kA X.K c) dx [])) (fun v H3 => v = .non ∧ Q (.ref a) H3) fun c d H' => w.W c d σ H' := by
    refine args_core (kk := fun x S' => Post X.K m H x S' Q) hk h1 h2 st q fun m2 H2 S2 xs ys vs zs x2 s2 t1 t2 l1 l2 q3 => ?_
    have lv := t1.length
    have lz := t2.length
    refine ⟨by omega, by omega, fun a dx ha hdx hne => ?_⟩
    have hHa : upd H2 dx (.own a) a = none := by rw [upd_ne (Ne.symm hne)]; exact ha
    have e1 : Ext m2 H2 m2 (upd H2 dx (.own a)) := Ext.new hdx
    have h1' : SimH X.K m2 (upd H2 dx (.own a)) S2 := s2.h.new hdx
    have e2 : Ext m2 (upd H2 dx (.own a)) (m2.push a) (upd (upd H2 dx (.own a)) a (.ins (kA X.K c) dx [])) := Ext.newM hHa
    have h2' : SimH X.K (m2.push a) (upd (upd H2 dx (.own a)) a (.ins (kA X.K c) dx [])) (S2 ++ [.obj c []]) := h1'.newO hHa ⟨dx, [], upd_same, G, rfl, .nil⟩
    have ra : R X.K (m2.push a) (upd (upd H2 dx (.own a)) a (.ins (kA X.K c) dx [])) (.ref S2.length) (.ref a) := .ref (by
      show (m2.ix ++ [a])[S2.length]? = some a
      rw [← s2.h.len]
      simp)
    have e3 := e1.trans e2
    refine ⟨true, m2.push a, S2 ++ [.obj c []], pick perm ((.ref S2.length :: xs) ++ ys), ?_, h2', Rs.pick perm ((Rs.cons ra (t1.ext e3)).append (t2.ext e3)), ?_⟩
    · refine (perm_len hp).2 ?_
      have := (perm_len hp).1
      have hkl : ks.length = kws.length := by rw [← hks, kw_len hk]
      rw [List.length_append, List.length_cons]
      omega
    · have q4 : Res X.K w m H σ ((cl true id (pick perm ((.ref S2.length :: xs) ++ ys)) (S2 ++ [.obj c []])).bind fun x s1 => madeV S2.length x s1) _ := q3
      have q5 := (q4.bind.ext x2).ext e3
      cases e5 : cl true id (pick perm ((.ref S2.length :: xs) ++ ys)) (S2 ++ [.obj c []]) with
      | bad => rw [e5] at q5; exact q5.elim
      | exc z S3 => rw [e5] at q5; exact q5
      | ok z S3 =>
        rw [e5] at q5
        have q6 : Res X.K w m H σ (madeV S2.length z S3) fun x S' => Post X.K m H x S' Q := q5
        obtain ⟨y, S4, e6, p⟩ := q6.ok (madeV_noX _ _ _)
        unfold madeV at e6
        split at e6
        · cases e6
          intro m' H' v x3 s3 r3
          cases r3
          exact ⟨rfl, p m' H' _ ((x2.trans e3).trans x3) s3 (ra.ext x3)⟩
        · cases e6
  have body : ∀ us s1, AP X pins σ (fun vs H1 => rdA X.K w (evs cl irs2) σ H1 fun zs H2 => vs.length = es.length ∧ zs.length = kws.length ∧
      ∀ a dx, H2 a = none → H2 dx = none → dx ≠ a → spIR X.K w.rx cl id ps.length (pick perm ((V.ref a :: vs) ++ zs)) (upd (upd H2 dx (.own a)) a (.ins (kA X.K c) dx [])) (fun v H3 => v = .non ∧ Q (.ref a) H3) fun c d H' => w.W c d σ H') us s1 →
      wpAny (model X.prog X.w) X.A (evalAll ((backToKw pos (keywordEach kws X.env)).map (·.2))) (fun ws s2 => X.K.In s2.heap ∧ wpAny (model X.prog X.w) X.A (PySem.call (.ref (kA X.K c)) us (((backToKw pos (keywordEach kws X.env)).filterMap (·.1)).zip ws)) (EP X pins σ Q) X.xe s2) X.xe s1 := by
    rintro us s1 ⟨vs, H1, I1, r1, q1⟩
    refine thn (hkw.run pos pins s1 σ H1 _ I1 q1) fun ws s2 ⟨zs, H2, I2, rz, l1, l2, q2⟩ => ⟨I2.kIn, ?_⟩
    rw [kf, hks]
    refine run_mk M FG hf hr hgu (fun H s e s' I hq => tk e s' (XE.of_call I (fun _ _ _ z => z) hq)) ?_ ?_ I2 r1 rz q2
    · rw [← r1.length, l1]; exact hp
    · rw [← rz.length, l2, ← hks, kw_len hk]
  cases es with
  | nil =>
    refine PySem.W.callWith_KW0 (h₀ := X.base) I.ok.mod.kin M.kp ka ?_ (by rw [kn]; rfl)
    cases irs with
    | cons _ _ => cases h1
    | nil =>
      obtain ⟨m2, σ2, S2, st2, q2⟩ := red
      have q2 : Posts X.K m2 H [] S2 _ := q2
      exact body [] s ⟨[], H, I, .nil, q2 m2 H [] Ext.refl st2.h .nil⟩
  | cons e es =>
    refine PySem.W.callWith_KW (h₀ := X.base) I.ok.mod.kin M.kp ka ?_ ?_ (star_cons (hs e List.mem_cons_self))
    · exact thn (ha.run pos pins s σ H _ I red) fun us s1 z => body us s1 z
    · rw [kn, star_plain hs]; rfl
theorem se_mk {c : String} {id : String} {x : Str} {ps ks : List Str} {perm : List Nat} {p pos : Pos} {es : List Expr} {kws : List Keyword} {irs irs2 : List Ex} (tk : Takes X w.W) (hgu : X.A.guards = some []) (F : MakeOk X w.rx cl c id ps) (hx : x = Str.ofString c) (hgl : Gl X x) (hd : (x == ("__debug__" : Str)) = false)
    (hs : ∀ e ∈ es, notStar e = true) (hk : ∀ k ∈ kws, k.arg.isSome = true) (hks : kws.filterMap (·.arg) = ks) (hp : permOf ps (es.length + 1) ks = some perm) (ha : SA X w cl es irs) (hkw : SK X w cl kws irs2) (h1 : irs.length = es.length) (h2 : irs2.length = kws.length) :
    SB X w cl (.Call (.Name x p) es kws pos) (.mk c id perm (irs ++ irs2)) :=
  sb_of (mk_core tk hgu F hx hgl hd hs hk hks hp ha hkw h1 h2) fun _ => rfl
end
end Tw
set_option Elab.async false
set_option linter.all false
set_option autoImplicit false
set_option maxRecDepth 100000
namespace Tw
open PySem PySem.Spec PyProof.Rows L2
theorem enum_newB {v : Value} {o : Obj} {H : Heap → Prop} (B : Begins v o H) :
    Meets (Builtin.«enumerate.__new__» ⟨[.type "enumerate", v], []⟩) (fun _ R s => H s.heap ∧
      R (.ok (.ret (.ref (s.heap.push o).objs.size))) { s with heap := (s.heap.push o).push { cls := .type "enumerate", data := .fields #[.none, .bool false, .ref s.heap.objs.size, rawInt 0, .none, .none] } }) :=
  .of_wp fun prog w A R s h => by
    obtain ⟨hp, g, d, tk, os⟩ := s
    obtain ⟨ho, hr⟩ := h
    have sub := sub_enumerate
    have it : ∀ {A' : Around} {E : Value → Shared → Prop} {Q : Value → Shared → Prop}, Q (.ref hp.objs.size) ⟨hp.push o, g, d, tk, os⟩ → wpAny (model prog w) A' (pyIter v) Q E ⟨hp, g, d, tk, os⟩ := fun q => B.iter prog w _ _ ⟨hp, g, d, tk, os⟩ _ ho q
    wp_walk using it
    refine wpAny_stack_any fun st => wpAny_pure ?_
    split
    · rename_i c _ _ _ _ _
      cases (c == Value.type "enumerate") <;> (wp_walk using it; exact ⟨_, rfl, hr⟩)
    · wp_walk using it
      exact ⟨_, rfl, hr⟩
section
variable {prog : Program} {w : World} {A : Around} {E : Value → Shared → Prop} {s : Shared}
theorem enum_begin1 {v : Value} {o : Obj} {H : Heap → Prop} {Q : Value → Shared → Prop} (B : Begins v o H) (h1 : H s.heap)
    (h : ∀ h', IsEnum h' (s.heap.objs.size + 1) s.heap.objs.size 0 .none → h'.get? s.heap.objs.size = some o → (∀ b u, s.heap.get? b = some u → h'.get? b = some u) → Q (.ref (s.heap.objs.size + 1)) { s with heap := h' }) :
    wpAny (model prog w) A (call (.type "enumerate") [v]) Q E s := by
  refine callType_new F.called_enumerate (by decide) (F.typeCall_enumerate_1 _) (F.newCall_enumerate_1 _) (fun obj => F.args_object_init_2 obj _) F.entry_enumerate_new (enum_newB B) ⟨h1, ?_⟩
  have sz : (s.heap.push o).objs.size = s.heap.objs.size + 1 := Heap.size_push ..
  show _ ∧ _
  rw [sz]
  have at1 := Heap.get?_push_size (s.heap.push o) (o := { cls := .type "enumerate", data := .fields #[.none, .bool false, .ref s.heap.objs.size, rawInt 0, .none, .none] }) rfl
  rw [sz] at at1
  exact ⟨⟨_, at1, rfl⟩, h _ at1 (Heap.get?_push_of_some _ (Heap.get?_push_size _ B.free)) fun b u e => Heap.get?_push_of_some _ (Heap.get?_push_of_some _ e)⟩
end
def IteT (K : PySem.W.Frag) (a : Addr) : L2.It :=
  ⟨fun i H => ∃ (xs : List V) (x : V), SqT K H a xs ∧ xs[i]? = some x, fun i H v H' => ∃ T x, v = .ref T ∧ H T = none ∧ H' = upd H T (.tup [.int (i : Nat), x]) ∧ ∀ xs, SqT K H a xs → xs[i]? = some x, fun i H => ∃ xs : List V, SqT K H a xs ∧ xs.length ≤ i⟩
theorem turn_enumT {P : Program} {w : World} {K : PySem.W.Frag} {elts : List Expr} {kk : Nat} {tpos : Pos} (a e it : Addr) :
    Turn P w K (.Tuple elts kk tpos) (IteT K a) [e, it] e (fun i h => (∃ old, IsEnum h e it ((i : Nat) : Int) old) ∧ h.IsTupleIter it a i ∧ e ≠ it) where
  mem := by simp
  obj := fun i h st b hb => by
    obtain ⟨⟨old, he⟩, ⟨o, ho, hc, hd⟩, _⟩ := st
    rcases (show b = e ∨ b = it by simpa using hb) with rfl | rfl
    · exact ⟨_, he, fun v q => nomatch q⟩
    · exact ⟨o, ho, fun v q => by rw [hd] at q; cases q⟩
  keep := fun i h h' st k => by
    obtain ⟨⟨old, he⟩, hi, hne⟩ := st
    exact ⟨⟨old, k e (by simp) _ he⟩, hi.at fun o q => k it (by simp) o q, hne⟩
  item := by
    intro X hP hw hK hc i pins s σ H E I hf st hg
    subst hP hw hK
    obtain ⟨⟨old, he⟩, hit, hne⟩ := st
    obtain ⟨xs, x, hq, hx⟩ := hg
    obtain ⟨its, rv, p, hz⟩ := I.tuple hq
    obtain ⟨u, hu, ru⟩ := rv.get hx
    have hel : e < s.heap.objs.size := Heap.lt_size he
    have hil : it < s.heap.objs.size := by obtain ⟨_, q, _⟩ := hit; exact Heap.lt_size q
    have tupIs : s.heap.IsTuple a its.toArray := p
    have ait : a ≠ it := fun z => by
      subst z
      obtain ⟨o1, g1, c1, _⟩ := hit
      obtain ⟨o2, g2, c2, _⟩ := tupIs
      rw [g1] at g2
      cases g2
      rw [c1] at c2
      simp at c2
    have aie : a ≠ e := fun z => by
      subst z
      obtain ⟨o2, g2, c2, _⟩ := tupIs
      have he : s.heap.get? a = some _ := he
      rw [he] at g2
      cases g2
      simp at c2
    have D := Draws.tuple (prog := X.prog) (w := X.w) (A := X.A.in1) (show X.A.in1.handled = none from I.ok.hd hc) it a ait its.toArray
    have lt : i < its.toArray.size := by
      have := (List.getElem?_eq_some_iff.mp hu).1
      simpa using this
    refine wpAny_pyNext_enum_itemD D he ⟨hit, tupIs⟩ lt hne (by simp [Ne.symm aie, hne]) fun y h' tk hy ho st' hT hsz hk => ?_
    have ey : y = u := by
      have hy : its.toArray[i]? = some y := hy
      rw [List.getElem?_toArray, hu] at hy
      exact (Option.some.inj hy).symm
    subst ey
    refine ⟨_, rfl, wpAny_letOwnedTupleGo_enum (s := { s with heap := h', toks := tk + 1 }) ho fun h'' he' sb => ?_⟩
    have hT2 : h''.get? s.heap.objs.size = some { cls := .type "tuple", data := .seq #[.int i tk, y] } := (sb.2 _ (Nat.ne_of_gt hel)).trans hT
    have new : ObjOk X.prog X.w (upd H s.heap.objs.size (.tup [.int (i : Nat), x])) h'' s.heap.objs.size (.tup [.int (i : Nat), x]) :=
      ⟨by show 2 ≤ sizeLine; decide, [.int i tk, y], .cons ⟨_, rfl⟩ (.cons ru .nil), ⟨_, hT2, rfl, _, rfl⟩⟩
    have I1 : Inv X pins σ (upd H s.heap.objs.size (.tup [.int (i : Nat), x])) { s with heap := h'', toks := tk + 1 } :=
      I.turnedNew (ch := [e, it]) (fun b ob hb q => (sb.2 b (fun z => hb (by simp [z]))).trans (hk b ob (fun z => hb (by simp [z])) (fun z => hb (by simp [z])) q)) hf (Nat.le_refl _) new
    refine ⟨.ref s.heap.objs.size, _, I1, rfl, ⟨_, x, rfl, I.hok.fresh (Nat.le_refl _), rfl, fun ys hy => by rw [I.tuple_inj hy hq]; exact hx⟩, ⟨⟨y, ?_⟩, st'.1.at fun o q => (sb.2 it (Ne.symm hne)).trans q, hne⟩, fun b hb => ?_⟩
    · rw [show ((i + 1 : Nat) : Int) = (i : Int) + 1 by omega]
      exact he'
    · have lt' : b < s.heap.objs.size := by
        rcases (show b = e ∨ b = it by simpa using hb) with rfl | rfl
        · exact hel
        · exact hil
      rw [upd_ne (Nat.ne_of_lt lt')]
      exact (hf b hb).1
  done := by
    intro X hP hw hK hc i pins s σ H E I hf st hg
    subst hP hw hK
    obtain ⟨⟨old, he⟩, hit, hne⟩ := st
    obtain ⟨xs, hq, hx⟩ := hg
    obtain ⟨its, rv, p, hz⟩ := I.tuple hq
    obtain ⟨f0, f1, f2, f3, f4, f5⟩ := hf it (by simp)
    have hl := rv.length
    have tupIs : s.heap.IsTuple a its.toArray := p
    have ty : s.TypeIs (.ref e) "enumerate" := ⟨_, he, rfl⟩
    unfold pyNext
    refine wpAny_bind (wpAny_attempt (wpAny_callSpecial?_slot (name := Str.ofString "__next__") ty F.slot_enumerate_next (wpAny_call_entry F.slot_enumerate_next ty F.entry_enumerate_next (show wpAny _ _ (field (.ref e) 2 >>= _) _ _ _ from ?_) (F.args_enumerate_next_1 _))))
    refine wpAny_bind (wpAny_field he rfl (x := .ref it) rfl (wpAny_bind (wpAny_nextOf_tuple_end (show X.A.in1.handled = none from I.ok.hd hc) hit tupIs (by simp; omega) fun h' x eb hx' => ?_)))
    obtain ⟨ob, hob, cob⟩ := hx'
    exact wpAny_bind (wpAny_isInstance (T := "StopIteration") (b := true) ⟨ob, hob, cob⟩ isSubtype_stop (wpAny_pure ⟨rfl, I.turned (t' := s.toks) (fun b o hb q => eb b o hb q) f0 f1 f3 f4 f5⟩))
  self := fun A i s Q E st h => let ⟨⟨_, he⟩, _⟩ := st; wpAny_pyIter_enum he h
def iEnumA (K : PySem.W.Frag) (ta : TA) : TI := fun σ H R => ta σ H fun vs H1 => ∃ a xs, vs = [.ref a] ∧ ((SqL K H1 a xs ∧ R (Ite K a) H1) ∨ (SqT K H1 a xs ∧ R (IteT K a) H1))
theorem pi_enumA {X : Cx} {e : Expr} {ta : TA} {p pos tpos : Pos} {elts : List Expr} {kk : Nat} (hg : Gl X "enumerate") (hm : X.mg "enumerate" = none) (ha : PA X [e] ta) (hs : starEach [e] X.env = [(false, eval e X.env)]) :
    PI X (.Tuple elts kk tpos) (.Call (.Name "enumerate" p) [e] [] pos) (iEnumA X.K ta) := by
  refine ⟨fun pins s σ H R I h => Call_ (ld_blt I hg hm boot_enumerate (PyProof.Rows.callWith_type1 (thn (ha.run pos pins s σ H _ I h) fun us s1 q1 => ?_) hs rfl))⟩
  obtain ⟨vs, H1, I1, r1, a, xs, rfl, q⟩ := q1
  have rr := Vals.ref1 r1
  subst rr
  have fresh : ∀ b ∈ [s1.heap.objs.size + 1, s1.heap.objs.size], FpOk X pins H1 b := fun b hb => by
    have le : s1.heap.objs.size ≤ b := by
      rcases (show b = s1.heap.objs.size + 1 ∨ b = s1.heap.objs.size by simpa using hb) with rfl | rfl
      · exact Nat.le_add_right _ _
      · exact Nat.le_refl _
    exact I1.fpOk le (I1.hok.fresh le)
  rcases q with ⟨hq, q⟩ | ⟨hq, q⟩
  · obtain ⟨its, rv, pl, hz⟩ := I1.list hq
    refine call_enumerate_list pl.isList fun h' he hit hsz hk => wpAny_pyIter_enum he ?_
    exact ⟨s1.heap.objs.size + 1, _, _, _, H1, rfl, I1.kept (t' := s1.toks) hk, turn_enum a (s1.heap.objs.size + 1) s1.heap.objs.size, ⟨⟨.none, he⟩, hit, Nat.succ_ne_self _⟩, fresh, q⟩
  · obtain ⟨its, rv, pl, hz⟩ := I1.tuple hq
    have tupIs : s1.heap.IsTuple a its.toArray := pl
    refine enum_begin1 (begins_tuple a its.toArray) tupIs fun h' he hit hk => wpAny_pyIter_enum he ?_
    exact ⟨s1.heap.objs.size + 1, _, _, _, H1, rfl, I1.kept (t' := s1.toks) hk, turn_enumT a (s1.heap.objs.size + 1) s1.heap.objs.size, ⟨⟨.none, he⟩, ⟨_, hit, rfl, rfl⟩, Nat.succ_ne_self _⟩, fresh, q⟩
end Tw
set_option Elab.async false
set_option linter.all false
set_option maxRecDepth 100000
set_option maxHeartbeats 1000000
namespace Tw
open PySem PySem.Spec PyProof.Rows L2
section
variable {prog : Program} {w : World}
structure Feed (prog : Program) (w : World) (it l : PySem.Addr) (I : Heap → Nat → Prop) (L : Heap → Array Value → Prop) : Prop where
  obj : ∀ {h k}, I h k → ∃ o n, h.get? it = some o ∧ o.data = .fields n
  lt : ∀ {h k}, I h k → it < h.objs.size
  keepI : ∀ {h h' k}, I h k → (∀ o, h.get? it = some o → h'.get? it = some o) → I h' k
  keepL : ∀ {h h' xs}, L h xs → (∀ o, h.get? l = some o → h'.get? l = some o) → L h' xs
  item : ∀ {A : Around} {s : Shared} {E : Value → Shared → Prop} {Q : Value → Shared → Prop} {k : Nat} {xs : Array Value} {x : Value}, I s.heap k → L s.heap xs → xs[k]? = some x →
    (∀ h', I h' (k + 1) → Heap.SameBut it s.heap h' → Q x { s with heap := h' }) → wpAny (model prog w) A (Builtin.SmallTypes.nextOf (.ref it)) Q E s
  stop : ∀ {A : Around} {s : Shared} {E : Value → Shared → Prop} {Q : Value → Shared → Prop} {k : Nat} {xs : Array Value}, A.handled = none → I s.heap k → L s.heap xs → xs[k]? = none →
    (∀ h' e, Heap.ExtBut it s.heap h' → (∃ o, h'.get? e = some o ∧ o.cls = .type "StopIteration") → E (.ref e) { s with heap := h' }) → wpAny (model prog w) A (Builtin.SmallTypes.nextOf (.ref it)) Q E s
theorem feedT (it l : PySem.Addr) : Feed prog w it l (fun h k => h.IsTupleIter it l k) (fun h xs => h.IsTuple l xs) where
  obj := fun ⟨o, ho, _, hd⟩ => ⟨o, _, ho, hd⟩
  lt := fun ⟨o, ho, _⟩ => Heap.lt_size ho
  keepI := fun h e => h.at e
  keepL := fun ⟨o, ho, r⟩ e => ⟨o, e o ho, r⟩
  item := fun h1 h2 h3 h4 => RZ.nextOf_tuple_item h1 h2 h3 h4
  stop := fun h0 h1 h2 h3 h4 => RZ.nextOf_tuple_end h0 h1 h2 h3 h4
theorem feedL (it l : PySem.Addr) : Feed prog w it l (fun h k => h.IsListIter it l k) (fun h xs => h.IsList l xs) where
  obj := fun ⟨o, ho, _, hd⟩ => ⟨o, _, ho, hd⟩
  lt := fun ⟨o, ho, _⟩ => Heap.lt_size ho
  keepI := fun h e => h.at e
  keepL := fun ⟨o, ho, r⟩ e => ⟨o, e o ho, r⟩
  item := fun h1 h2 h3 h4 => wpAny_nextOf_list_item h1 h2 h3 h4
  stop := fun h0 h1 h2 h3 h4 => wpAny_nextOf_list_end h0 h1 h2 h3 h4
variable {A : Around} {E : Value → Shared → Prop} {s : Shared} {z TI TO i1 i2 l1 l2 : PySem.Addr} {k1 k2 : Nat} {xs ys : Array Value} {x y a b : Value} {I1 I2 : Heap → Nat → Prop} {L1 L2 : Heap → Array Value → Prop}
theorem zipF_item {Q : Value → Shared → Prop} (D : ZipApart z TI TO i1 i2 l1 l2) (F1 : Feed prog w i1 l1 I1 L1) (F2 : Feed prog w i2 l2 I2 L2)
    (hz : IsZip s.heap z TI TO .none) (hTI : IsPair s.heap TI (.ref i1) (.ref i2)) (hTO : IsPair s.heap TO a b) (h1 : I1 s.heap k1) (h2 : I2 s.heap k2) (hl1 : L1 s.heap xs) (hl2 : L2 s.heap ys) (hx : xs[k1]? = some x) (hy : ys[k2]? = some y)
    (hQ : ∀ h', IsZip h' z TI TO (rawInt s.heap.objs.size) → IsPair h' TO x y → I1 h' (k1 + 1) → I2 h' (k2 + 1) → IsPair h' s.heap.objs.size x y → h'.objs.size = s.heap.objs.size + 1 →
      (∀ c o, c ≠ z → c ≠ TO → c ≠ i1 → c ≠ i2 → s.heap.get? c = some o → h'.get? c = some o) → Q (.ref s.heap.objs.size) { s with heap := h' }) :
    wpAny (model prog w) A (Builtin.«zip.__next__» ⟨[.ref z], []⟩) (fun fin s' => ∃ v, fin = .done (.ret v) ∧ Q v s') E s := by
  show wpAny _ _ (field (.ref z) 2 >>= _) _ _ _
  refine wpAny_bind (wpAny_field hz rfl (x := .bool false) rfl ?_)
  show wpAny _ _ (field (.ref z) 3 >>= _) _ _ _
  refine wpAny_bind (wpAny_field hz rfl (x := .ref TI) rfl (wpAny_bind (wpAny_seqItems hTI rfl ?_)))
  show wpAny _ _ (Builtin.SmallTypes.ownedTupleIsFree (.ref z) >>= _) _ _ _
  unfold Builtin.SmallTypes.ownedTupleIsFree
  refine wpAny_bind (wpAny_bind (wpAny_field hz rfl (x := .none) rfl (wpAny_pure ?_)))
  simp only [if_true]
  refine wpAny_bind (wpAny_rule (wpAny_bind (wpAny_field hz rfl (x := .ref TO) rfl (wpAny_bind (wpAny_setField_rec hz (by simp) fun g1 z1 c1 => ?_)))))
  replace z1 : IsZip g1 z TI TO .ellipsis := z1
  refine wpAny_bind ?_
  simp only [List.zipIdx_cons, List.zipIdx_nil, List.forIn_cons, List.forIn_nil]
  refine wpAny_bind (wpAny_bind (wpAny_onRaise ?_))
  show wpAny _ _ (Builtin.SmallTypes.nextOf (.ref i1) >>= _) _ _ _
  have e1 : ∀ c o, c ≠ z → s.heap.get? c = some o → g1.get? c = some o := fun c o n q => c1.extBut _ _ n q
  refine wpAny_bind (F1.item (F1.keepI h1 fun o => e1 _ o D.i1z) (F1.keepL hl1 fun o => e1 _ o D.l1z) hx fun g2 j1 c2 => wpAny_pure ?_)
  have e2 : ∀ c o, c ≠ z → c ≠ i1 → s.heap.get? c = some o → g2.get? c = some o := fun c o n m q => c2.extBut _ _ m (e1 c o n q)
  have p2 : IsPair g2 TO a b := e2 _ _ D.TOz D.TOi1 hTO
  refine wpAny_bind (wpAny_seqItems p2 rfl (wpAny_bind (wpAny_updateSeq_pair p2 fun g3 p3 c3 => wpAny_bind (wpAny_letGo (wpAny_pure ?_)))))
  replace p3 : IsPair g3 TO x b := p3
  have e3 : ∀ c o, c ≠ z → c ≠ i1 → c ≠ TO → s.heap.get? c = some o → g3.get? c = some o := fun c o n m r q => c3.extBut _ _ r (e2 c o n m q)
  refine wpAny_bind (wpAny_bind (wpAny_onRaise ?_))
  show wpAny _ _ (Builtin.SmallTypes.nextOf (.ref i2) >>= _) _ _ _
  refine wpAny_bind (F2.item (F2.keepI h2 fun o => e3 _ o D.i2z D.i12.symm D.TOi2.symm) (F2.keepL hl2 fun o => e3 _ o D.l2z D.l2i1 D.l2TO) hy fun g4 j2 c4 => wpAny_pure ?_)
  have p4 : IsPair g4 TO x b := c4.extBut _ _ D.TOi2 p3
  refine wpAny_bind (wpAny_seqItems p4 rfl (wpAny_bind (wpAny_updateSeq_pair p4 fun g5 p5 c5 => wpAny_bind (wpAny_letGo (wpAny_pure (wpAny_pure ?_))))))
  replace p5 : IsPair g5 TO x y := p5
  refine wpAny_bind (wpAny_seqItems p5 rfl (wpAny_bind (wpAny_newTuple ?_)))
  have sz : g5.objs.size = s.heap.objs.size := by rw [c5.1, c4.1, c3.1, c2.1, c1.1]
  have e5 : ∀ c o, c ≠ z → c ≠ TO → c ≠ i1 → c ≠ i2 → s.heap.get? c = some o → g5.get? c = some o := fun c o n r m u q => c5.extBut _ _ r (c4.extBut _ _ u (e3 c o n m r q))
  have z5 : IsZip g5 z TI TO .ellipsis := c5.extBut _ _ D.TOz.symm (c4.extBut _ _ D.i2z.symm (c3.extBut _ _ D.TOz.symm (c2.extBut _ _ D.i1z.symm z1)))
  have j15 : I1 g5 (k1 + 1) := F1.keepI j1 fun o q => c5.extBut _ _ D.TOi1.symm (c4.extBut _ _ D.i12 (c3.extBut _ _ D.TOi1.symm q))
  have j25 : I2 g5 (k2 + 1) := F2.keepI j2 fun o q => c5.extBut _ _ D.TOi2.symm q
  have zlt : z < g5.objs.size := Heap.lt_size z5
  show wpAny _ _ (Builtin.SmallTypes.ownedTupleHandOut (.ref z) (.ref g5.objs.size) >>= _) _ _ _
  unfold Builtin.SmallTypes.ownedTupleHandOut
  have z6 : IsZip (g5.push { cls := .type "tuple", data := .seq #[x, y] }) z TI TO .ellipsis := Heap.get?_push_of_some _ z5
  refine wpAny_bind (wpAny_bind (wpAny_setField_rec z6 (by simp) fun g7 z7 c7 => ?_))
  replace z7 : IsZip g7 z TI TO (rawInt g5.objs.size) := z7
  refine wpAny_setField_rec z7 (by simp) fun g8 z8 c8 => ?_
  replace z8 : IsZip g8 z TI TO (rawInt g5.objs.size) := z8
  have up : ∀ c o, c ≠ z → g5.get? c = some o → g8.get? c = some o := fun c o n q => c8.extBut _ _ n (c7.extBut _ _ n (Heap.get?_push_of_some _ q))
  have p8 : IsPair g8 g5.objs.size x y := c8.extBut _ _ (Nat.ne_of_gt zlt) (c7.extBut _ _ (Nat.ne_of_gt zlt) (Heap.get?_push_size _ rfl))
  have s8 : g8.objs.size = g5.objs.size + 1 := by rw [c8.1, c7.1, Heap.size_push]
  rw [sz] at z8 p8 s8
  refine wpAny_pure ⟨_, rfl, ?_⟩
  show Q (.ref g5.objs.size) _
  rw [sz]
  exact hQ g8 z8 (up _ _ D.TOz p5) (F1.keepI j15 fun o => up _ o D.i1z) (F2.keepI j25 fun o => up _ o D.i2z) p8 s8 fun c o n r m u q => up c o n (e5 c o n r m u q)
theorem zipF_stop {Q : Fin → Shared → Prop} (hh : A.handled = none) (D : ZipApart z TI TO i1 i2 l1 l2) (F1 : Feed prog w i1 l1 I1 L1) (F2 : Feed prog w i2 l2 I2 L2)
    (hz : IsZip s.heap z TI TO .none) (hTI : IsPair s.heap TI (.ref i1) (.ref i2)) (hTO : IsPair s.heap TO a b) (h1 : I1 s.heap k1) (h2 : I2 s.heap k2) (hl1 : L1 s.heap xs) (hl2 : L2 s.heap ys) (hend : xs[k1]? = none ∨ ys[k2]? = none)
    (hE : ∀ h' e, (∀ c o, c ≠ z → c ≠ TO → c ≠ i1 → c ≠ i2 → s.heap.get? c = some o → h'.get? c = some o) → (∃ o, h'.get? e = some o ∧ o.cls = .type "StopIteration") → E (.ref e) { s with heap := h' }) :
    wpAny (model prog w) A (Builtin.«zip.__next__» ⟨[.ref z], []⟩) Q E s := by
  show wpAny _ _ (field (.ref z) 2 >>= _) _ _ _
  refine wpAny_bind (wpAny_field hz rfl (x := .bool false) rfl ?_)
  show wpAny _ _ (field (.ref z) 3 >>= _) _ _ _
  refine wpAny_bind (wpAny_field hz rfl (x := .ref TI) rfl (wpAny_bind (wpAny_seqItems hTI rfl ?_)))
  show wpAny _ _ (Builtin.SmallTypes.ownedTupleIsFree (.ref z) >>= _) _ _ _
  unfold Builtin.SmallTypes.ownedTupleIsFree
  refine wpAny_bind (wpAny_bind (wpAny_field hz rfl (x := .none) rfl (wpAny_pure ?_)))
  simp only [if_true]
  refine wpAny_bind (wpAny_rule (wpAny_bind (wpAny_field hz rfl (x := .ref TO) rfl (wpAny_bind (wpAny_setField_rec hz (by simp) fun g1 z1 c1 => ?_)))))
  replace z1 : IsZip g1 z TI TO .ellipsis := z1
  refine wpAny_bind ?_
  simp only [List.zipIdx_cons, List.zipIdx_nil, List.forIn_cons, List.forIn_nil]
  refine wpAny_bind (wpAny_bind (wpAny_onRaise ?_))
  show wpAny _ _ (Builtin.SmallTypes.nextOf (.ref i1) >>= _) _ _ _
  have e1 : ∀ c o, c ≠ z → s.heap.get? c = some o → g1.get? c = some o := fun c o n q => c1.extBut _ _ n q
  have w1 := F1.keepI h1 fun o => e1 _ o D.i1z
  have v1 := F1.keepL hl1 fun o => e1 _ o D.l1z
  have ends : ∀ (g : Heap) (e : PySem.Addr), IsZip g z TI TO .ellipsis → (∀ c o, c ≠ z → c ≠ TO → c ≠ i1 → c ≠ i2 → s.heap.get? c = some o → g.get? c = some o) → (∃ o, g.get? e = some o ∧ o.cls = .type "StopIteration") →
      ∀ h', Heap.SameBut z g h' → E (.ref e) { s with heap := h' } := fun g e zz keep ⟨o, ho, hc⟩ h' c => by
    have ez : e ≠ z := fun q => by
      subst q
      rw [zz] at ho
      cases ho
      simp at hc
    exact hE h' e (fun c' o' n r m u q => c.extBut _ _ n (keep c' o' n r m u q)) ⟨o, c.extBut _ _ ez ho, hc⟩
  cases hx : xs[k1]? with
  | none =>
    refine wpAny_bind (F1.stop hh w1 v1 hx fun g2 e c2 he => ?_)
    have zz : IsZip g2 z TI TO .ellipsis := c2 _ _ D.i1z.symm z1
    exact wpAny_setField_rec zz (by simp) fun g3 _ c3 => ends g2 e zz (fun c o n r m u q => c2 _ _ m (e1 c o n q)) he g3 c3
  | some x =>
    have hy : ys[k2]? = none := hend.resolve_left (by rw [hx]; simp)
    refine wpAny_bind (F1.item w1 v1 hx fun g2 j1 c2 => wpAny_pure ?_)
    have p2 : IsPair g2 TO a b := c2.extBut _ _ D.TOi1 (e1 _ _ D.TOz hTO)
    refine wpAny_bind (wpAny_seqItems p2 rfl (wpAny_bind (wpAny_updateSeq_pair p2 fun g3 p3 c3 => wpAny_bind (wpAny_letGo (wpAny_pure ?_)))))
    have e3 : ∀ c o, c ≠ z → c ≠ i1 → c ≠ TO → s.heap.get? c = some o → g3.get? c = some o := fun c o n m r q => c3.extBut _ _ r (c2.extBut _ _ m (e1 c o n q))
    refine wpAny_bind (wpAny_bind (wpAny_onRaise ?_))
    show wpAny _ _ (Builtin.SmallTypes.nextOf (.ref i2) >>= _) _ _ _
    refine wpAny_bind (F2.stop hh (F2.keepI h2 fun o => e3 _ o D.i2z D.i12.symm D.TOi2.symm) (F2.keepL hl2 fun o => e3 _ o D.l2z D.l2i1 D.l2TO) hy fun g4 e c4 he => ?_)
    have zz : IsZip g4 z TI TO .ellipsis := c4 _ _ D.i2z.symm (c3.extBut _ _ D.TOz.symm (c2.extBut _ _ D.i1z.symm z1))
    exact wpAny_setField_rec zz (by simp) fun g5 _ c5 => ends g4 e zz (fun c o n r m u q => c4 _ _ u (e3 c o n m r q)) he g5 c5
theorem pyNextF_item {Q : Option Value → Shared → Prop} (D : ZipApart z TI TO i1 i2 l1 l2) (F1 : Feed prog w i1 l1 I1 L1) (F2 : Feed prog w i2 l2 I2 L2)
    (hz : IsZip s.heap z TI TO .none) (hTI : IsPair s.heap TI (.ref i1) (.ref i2)) (hTO : IsPair s.heap TO a b) (h1 : I1 s.heap k1) (h2 : I2 s.heap k2) (hl1 : L1 s.heap xs) (hl2 : L2 s.heap ys) (hx : xs[k1]? = some x) (hy : ys[k2]? = some y)
    (hQ : ∀ h', IsZip h' z TI TO (rawInt s.heap.objs.size) → IsPair h' TO x y → I1 h' (k1 + 1) → I2 h' (k2 + 1) → IsPair h' s.heap.objs.size x y → h'.objs.size = s.heap.objs.size + 1 →
      (∀ c o, c ≠ z → c ≠ TO → c ≠ i1 → c ≠ i2 → s.heap.get? c = some o → h'.get? c = some o) → Q (some (.ref s.heap.objs.size)) { s with heap := h' }) :
    wpAny (model prog w) A (pyNext (.ref z)) Q E s := by
  have hT : s.TypeIs (.ref z) "zip" := ⟨_, hz, rfl⟩
  unfold pyNext
  exact wpAny_bind (wpAny_attempt (wpAny_callSpecial?_slot (name := Str.ofString "__next__") hT F.slot_zip_next
    (wpAny_call_entry F.slot_zip_next hT F.entry_zip_next (zipF_item D F1 F2 hz hTI hTO h1 h2 hl1 hl2 hx hy fun h' a1 a2 a3 a4 a5 a6 a7 => wpAny_pure (hQ h' a1 a2 a3 a4 a5 a6 a7)) (F.args_zip_next_1 _))))
theorem pyNextF_stop {Q : Option Value → Shared → Prop} (hh : A.handled = none) (D : ZipApart z TI TO i1 i2 l1 l2) (F1 : Feed prog w i1 l1 I1 L1) (F2 : Feed prog w i2 l2 I2 L2)
    (hz : IsZip s.heap z TI TO .none) (hTI : IsPair s.heap TI (.ref i1) (.ref i2)) (hTO : IsPair s.heap TO a b) (h1 : I1 s.heap k1) (h2 : I2 s.heap k2) (hl1 : L1 s.heap xs) (hl2 : L2 s.heap ys) (hend : xs[k1]? = none ∨ ys[k2]? = none)
    (hQ : ∀ h', (∀ c o, c ≠ z → c ≠ TO → c ≠ i1 → c ≠ i2 → s.heap.get? c = some o → h'.get? c = some o) → Q none { s with heap := h' }) : wpAny (model prog w) A (pyNext (.ref z)) Q E s := by
  have hT : s.TypeIs (.ref z) "zip" := ⟨_, hz, rfl⟩
  unfold pyNext
  refine wpAny_bind (wpAny_attempt (wpAny_callSpecial?_slot (name := Str.ofString "__next__") hT F.slot_zip_next
    (wpAny_call_entry F.slot_zip_next hT F.entry_zip_next (zipF_stop hh D F1 F2 hz hTI hTO h1 h2 hl1 hl2 hend fun h' e hk he => ?_) (F.args_zip_next_1 _))))
  obtain ⟨o, ho, hc⟩ := he
  exact wpAny_bind (wpAny_isInstance (T := "StopIteration") (b := true) ⟨o, ho, hc⟩ isSubtype_stop (wpAny_pure (hQ _ hk)))
end
abbrev zm1 (h : Heap) (l1 : PySem.Addr) : Heap := h.push { cls := .type "tuple_iterator", data := .fields #[.ref l1, .int 0 0] }
abbrev zm2 (h : Heap) (l1 l2 : PySem.Addr) : Heap := (zm1 h l1).push { cls := .type "list_iterator", data := .fields #[.ref l2, .int 0 0] }
abbrev zm3 (h : Heap) (l1 l2 : PySem.Addr) : Heap := (zm2 h l1 l2).push { cls := .type "tuple", data := .seq #[.ref h.objs.size, .ref (zm1 h l1).objs.size] }
abbrev zm4 (h : Heap) (l1 l2 : PySem.Addr) : Heap := (zm3 h l1 l2).push { cls := .type "tuple", data := .seq #[.none, .none] }
abbrev zm5 (h : Heap) (l1 l2 : PySem.Addr) : Heap := (zm4 h l1 l2).push { cls := .type "zip", data := .fields #[.none, .bool false, .bool false, .ref (zm2 h l1 l2).objs.size, .ref (zm3 h l1 l2).objs.size] }
theorem meets_zipM (l1 l2 : PySem.Addr) (xs ys : Array Value) :
    Meets (Builtin.«zip.__new__» ⟨[.type "zip", .ref l1, .ref l2], []⟩) (fun _ R s => s.heap.IsTuple l1 xs ∧ s.heap.IsList l2 ys ∧ R (.ok (.ret (.ref (zm4 s.heap l1 l2).objs.size))) { s with heap := zm5 s.heap l1 l2 }) :=
  .of_wp fun prog w A R s h => by
    obtain ⟨hp, g, d, tk, os⟩ := s
    obtain ⟨t1, t2, h⟩ := h
    have hsub := sub_zip
    have u1 : Heap.IsTuple (Shared.heap ⟨hp, g, d, tk, os⟩) l1 xs := t1
    have u2 : Heap.IsList (Shared.heap ⟨hp.push { cls := .type "tuple_iterator", data := .fields #[.ref l1, .int 0 0] }, g, d, tk, os⟩) l2 ys := Heap.IsList.push t2 _
    wp_walk using wpAny_pyIter_tuple u1, wpAny_pyIter_list u2
    exact ⟨_, rfl, h⟩
section
variable {prog : Program} {w : World} {A : Around} {E : Value → Shared → Prop} {s : Shared}
theorem call_zipM {l1 l2 : PySem.Addr} {xs ys : Array Value} {Q : Value → Shared → Prop} (hl1 : s.heap.IsTuple l1 xs) (hl2 : s.heap.IsList l2 ys)
    (h : ∀ h', IsZip h' (s.heap.objs.size + 4) (s.heap.objs.size + 2) (s.heap.objs.size + 3) .none → IsPair h' (s.heap.objs.size + 2) (.ref s.heap.objs.size) (.ref (s.heap.objs.size + 1)) →
      IsPair h' (s.heap.objs.size + 3) .none .none → h'.IsTupleIter s.heap.objs.size l1 0 → h'.IsListIter (s.heap.objs.size + 1) l2 0 → (∀ c o, s.heap.get? c = some o → h'.get? c = some o) → Q (.ref (s.heap.objs.size + 4)) { s with heap := h' }) :
    wpAny (model prog w) A (call (.type "zip") [.ref l1, .ref l2]) Q E s := by
  refine callType_new F.called_zip (by decide) (F.typeCall_zip_2 _ _) (F.newCall_zip_2 _ _) (fun obj => F.args_object_init_3 obj _ _) F.entry_zip_new (meets_zipM l1 l2 xs ys) ⟨hl1, hl2, ?_⟩
  have n1 : (zm1 s.heap l1).objs.size = s.heap.objs.size + 1 := Heap.size_push ..
  have n2 : (zm2 s.heap l1 l2).objs.size = s.heap.objs.size + 2 := by rw [Heap.size_push, n1]
  have n3 : (zm3 s.heap l1 l2).objs.size = s.heap.objs.size + 3 := by rw [Heap.size_push, n2]
  have n4 : (zm4 s.heap l1 l2).objs.size = s.heap.objs.size + 4 := by rw [Heap.size_push, n3]
  have up : ∀ {g : Heap} {o : Obj} {c : PySem.Addr} {q : Obj}, g.get? c = some q → (g.push o).get? c = some q := fun e => Heap.get?_push_of_some _ e
  have m5 : (zm5 s.heap l1 l2).get? (zm4 s.heap l1 l2).objs.size = some _ := Heap.get?_push_size _ rfl
  have m4 : (zm5 s.heap l1 l2).get? (zm3 s.heap l1 l2).objs.size = some _ := up (Heap.get?_push_size _ rfl)
  have m3 : (zm5 s.heap l1 l2).get? (zm2 s.heap l1 l2).objs.size = some _ := up (up (Heap.get?_push_size _ rfl))
  have m2 : (zm5 s.heap l1 l2).get? (zm1 s.heap l1).objs.size = some _ := up (up (up (Heap.get?_push_size _ rfl)))
  have m1 : (zm5 s.heap l1 l2).get? s.heap.objs.size = some _ := up (up (up (up (Heap.get?_push_size _ rfl))))
  show _ ∧ _
  rw [n2, n3, n4] at m5
  rw [n1, n2] at m3
  rw [n3] at m4
  rw [n1] at m2
  rw [n4]
  exact ⟨⟨_, m5, rfl⟩, h _ m5 m3 m4 ⟨_, m1, rfl, rfl⟩ ⟨_, m2, rfl, rfl⟩ fun c o e => up (up (up (up (up e))))⟩
end
def ItzM (K : PySem.W.Frag) (a b : PySem.Addr) : L2.It :=
  ⟨fun i H => ∃ (xs ys : List V) (x y : V), SqT K H a xs ∧ SqL K H b ys ∧ xs[i]? = some x ∧ ys[i]? = some y,
    fun i H v H' => ∃ T x y, v = .ref T ∧ H T = none ∧ H' = upd H T (.tup [x, y]) ∧ (∀ xs, SqT K H a xs → xs[i]? = some x) ∧ ∀ ys, SqL K H b ys → ys[i]? = some y,
    fun i H => ∃ xs ys : List V, SqT K H a xs ∧ SqL K H b ys ∧ (xs.length ≤ i ∨ ys.length ≤ i)⟩
theorem five {c z TI TO i1 i2 : PySem.Addr} (h : c ∈ [z, TI, TO, i1, i2]) : c = z ∨ c = TI ∨ c = TO ∨ c = i1 ∨ c = i2 := by simpa using h
theorem turnM {P : Program} {w : World} {K : PySem.W.Frag} {elts : List Expr} {kk : Nat} {tpos : Pos} {a b z TI TO i1 i2 : PySem.Addr} (D : ZipApart z TI TO i1 i2 a b) :
    Turn P w K (.Tuple elts kk tpos) (ItzM K a b) [z, TI, TO, i1, i2] z (fun i h => IsZip h z TI TO .none ∧ IsPair h TI (.ref i1) (.ref i2) ∧ (∃ x y, IsPair h TO x y) ∧ h.IsTupleIter i1 a i ∧ h.IsListIter i2 b i) where
  mem := by simp
  obj := fun i h st c hc => by
    obtain ⟨hz, hTI, ⟨x, y, hTO⟩, ⟨o1, e1, _, d1⟩, ⟨o2, e2, _, d2⟩⟩ := st
    rcases five hc with rfl | rfl | rfl | rfl | rfl
    · exact ⟨_, hz, fun v q => nomatch q⟩
    · exact ⟨_, hTI, fun v q => nomatch q⟩
    · exact ⟨_, hTO, fun v q => nomatch q⟩
    · exact ⟨o1, e1, fun v q => by rw [d1] at q; cases q⟩
    · exact ⟨o2, e2, fun v q => by rw [d2] at q; cases q⟩
  keep := fun i h h' st k => by
    obtain ⟨hz, hTI, ⟨x, y, hTO⟩, h1, h2⟩ := st
    exact ⟨k z (by simp) _ hz, k TI (by simp) _ hTI, ⟨x, y, k TO (by simp) _ hTO⟩, h1.at fun o q => k i1 (by simp) o q, h2.at fun o q => k i2 (by simp) o q⟩
  item := by
    intro X hP hw hK hc i pins s σ H E I hf st hg
    subst hP hw hK
    obtain ⟨hz, hTI, ⟨x0, y0, hTO⟩, h1, h2⟩ := st
    obtain ⟨xs, ys, x, y, hqx, hqy, hx, hy⟩ := hg
    obtain ⟨its, rv, p, _⟩ := I.tuple hqx
    obtain ⟨its2, rv2, p2, _⟩ := I.list hqy
    obtain ⟨u, hu, ru⟩ := rv.get hx
    obtain ⟨u2, hu2, ru2⟩ := rv2.get hy
    have zlt : z < s.heap.objs.size := Heap.lt_size hz
    refine pyNextF_item D (feedT i1 a) (feedL i2 b) hz hTI hTO h1 h2 p p2.isList (xs := its.toArray) (ys := its2.toArray) (x := u) (y := u2) (by simpa using hu) (by simpa using hu2) fun h' z' TO' h1' h2' hT _ hk => ?_
    refine ⟨_, rfl, wpAny_letOwnedTupleGo_zip (s := { s with heap := h' }) z' fun h'' z'' sb => ?_⟩
    have pair : h''.get? s.heap.objs.size = some { cls := .type "tuple", data := .seq #[u, u2] } := (sb.2 _ (Nat.ne_of_gt zlt)).trans hT
    have new : ObjOk X.prog X.w (upd H s.heap.objs.size (.tup [x, y])) h'' s.heap.objs.size (.tup [x, y]) := ⟨by show 2 ≤ sizeLine; decide, [u, u2], .cons ru (.cons ru2 .nil), ⟨_, pair, rfl, _, rfl⟩⟩
    have kept : ∀ c o, c ∉ [z, TI, TO, i1, i2] → s.heap.get? c = some o → h''.get? c = some o := fun c o hb q => by
      simp only [List.mem_cons, List.not_mem_nil, or_false, not_or] at hb
      exact (sb.2 c hb.1).trans (hk c o hb.1 hb.2.2.1 hb.2.2.2.1 hb.2.2.2.2 q)
    have I1 : Inv X pins σ (upd H s.heap.objs.size (.tup [x, y])) { s with heap := h'' } := I.turnedNew (t' := s.toks) (ch := [z, TI, TO, i1, i2]) kept hf (Nat.le_refl _) new
    refine ⟨.ref s.heap.objs.size, _, I1, rfl, ⟨_, x, y, rfl, I.hok.fresh (Nat.le_refl _), rfl, fun l hl => by rw [I.tuple_inj hl hqx]; exact hx, fun l hl => by rw [I.list_inj hl hqy]; exact hy⟩, ⟨z'', (sb.2 _ D.TIz).trans (hk _ _ D.TIz D.TITO D.TIi1 D.TIi2 hTI), ⟨u, u2, (sb.2 _ D.TOz).trans TO'⟩, h1'.at fun o q => (sb.2 _ D.i1z).trans q, h2'.at fun o q => (sb.2 _ D.i2z).trans q⟩, fun c hcm => ?_⟩
    have hlt : c < s.heap.objs.size := by
      rcases five hcm with rfl | rfl | rfl | rfl | rfl
      · exact zlt
      · exact Heap.lt_size hTI
      · exact Heap.lt_size hTO
      · exact (feedT (prog := X.prog) (w := X.w) _ _).lt h1
      · exact (feedL (prog := X.prog) (w := X.w) _ _).lt h2
    rw [upd_ne (Nat.ne_of_lt hlt)]
    exact (hf c hcm).1
  done := by
    intro X hP hw hK hc i pins s σ H E I hf st hg
    subst hP hw hK
    obtain ⟨hz, hTI, ⟨x0, y0, hTO⟩, h1, h2⟩ := st
    obtain ⟨xs, ys, hqx, hqy, hend⟩ := hg
    obtain ⟨its, rv, p, _⟩ := I.tuple hqx
    obtain ⟨its2, rv2, p2, _⟩ := I.list hqy
    have n1 := rv.length
    have n2 := rv2.length
    have he : its.toArray[i]? = none ∨ its2.toArray[i]? = none := by
      rcases hend with q | q
      · exact .inl (by simp; omega)
      · exact .inr (by simp; omega)
    exact pyNextF_stop (I.ok.hd hc) D (feedT i1 a) (feedL i2 b) hz hTI hTO h1 h2 p p2.isList he fun h' hk => ⟨rfl, I.turnedL (t' := s.toks) (ch := [z, TI, TO, i1, i2]) (fun c o hb q => by
      simp only [List.mem_cons, List.not_mem_nil, or_false, not_or] at hb
      exact hk c o hb.1 hb.2.2.1 hb.2.2.2.1 hb.2.2.2.2 q) hf⟩
  self := fun A i s Q E st h => wpAny_pyIter_zip st.1 h
def iZip3 (K : PySem.W.Frag) (ta : TA) : TI := fun σ H R => ta σ H fun vs H1 => ∃ a b xs ys, vs = [.ref a, .ref b] ∧
  ((SqL K H1 a xs ∧ SqL K H1 b ys ∧ R (Itz K a b) H1) ∨ (SqT K H1 a xs ∧ SqT K H1 b ys ∧ R (RZ.ItzT K a b) H1) ∨ (SqT K H1 a xs ∧ SqL K H1 b ys ∧ R (ItzM K a b) H1))
theorem pi_zip3 {X : Cx} {e e2 : Expr} {ta : TA} {p pos tpos : Pos} {elts : List Expr} {kk : Nat} (hg : Gl X "zip") (hm : X.mg "zip" = none) (ha : PA X [e, e2] ta)
    (hs : starEach [e, e2] X.env = (false, eval e X.env) :: starEach [e2] X.env := by rfl) (hpl : (backTo pos (starEach [e2] X.env)).any (·.1) = false := by rfl) :
    PI X (.Tuple elts kk tpos) (.Call (.Name "zip" p) [e, e2] [] pos) (iZip3 X.K ta) := by
  refine ⟨fun pins s σ H R I h => ?_⟩
  refine Call_ (ld_blt I hg hm PyProof.Rows.boot_zip (PyProof.Rows.callWith_type1 (thn (ha.run pos pins s σ H _ I h) fun us s1 ⟨vs, H1, I1, r1, q1⟩ => ?_) hs hpl))
  obtain ⟨a, b, xs, ys, ex, q⟩ := q1
  subst ex
  cases r1 with
  | cons r rr =>
    cases rr with
    | cons r' rr =>
      cases rr
      cases r
      cases r'
      have fresh : ∀ c, c ∈ [s1.heap.objs.size + 4, s1.heap.objs.size + 2, s1.heap.objs.size + 3, s1.heap.objs.size, s1.heap.objs.size + 1] → FpOk X pins H1 c := fun c hcm => by
        have hle : s1.heap.objs.size ≤ c := by
          rcases five hcm with rfl | rfl | rfl | rfl | rfl <;> omega
        exact I1.fpOk hle (I1.hok.fresh hle)
      rcases q with ⟨hqx, hqy, q⟩ | ⟨hqx, hqy, q⟩ | ⟨hqx, hqy, q⟩
      · obtain ⟨its, rv, p1, _⟩ := I1.list hqx
        obtain ⟨its2, rv2, p2, _⟩ := I1.list hqy
        refine call_zip_2 p1.isList p2.isList fun h' hz hTI hTO h1 h2 _ hk => wpAny_pyIter_zip hz ?_
        have I2 : Inv X pins σ H1 { s1 with heap := h' } := I1.kept (t' := s1.toks) hk
        exact ⟨_, [s1.heap.objs.size + 4, s1.heap.objs.size + 2, s1.heap.objs.size + 3, s1.heap.objs.size, s1.heap.objs.size + 1], _, _, H1, rfl, I2, turn_zip (PySem.W.ktu_apart s1.heap.objs.size a b p1.lt p2.lt), ⟨hz, hTI, ⟨_, _, hTO⟩, h1, h2⟩, fresh, q⟩
      · obtain ⟨its, rv, p1, _⟩ := I1.tuple hqx
        obtain ⟨its2, rv2, p2, _⟩ := I1.tuple hqy
        obtain ⟨o1, ho1, _⟩ := id p1
        obtain ⟨o2, ho2, _⟩ := id p2
        refine RZ.call_zipT (show s1.heap.IsTuple a its.toArray from p1) (show s1.heap.IsTuple b its2.toArray from p2) fun h' hz hTI hTO h1 h2 _ hk => wpAny_pyIter_zip hz ?_
        have I2 : Inv X pins σ H1 { s1 with heap := h' } := I1.kept (t' := s1.toks) hk
        exact ⟨_, [s1.heap.objs.size + 4, s1.heap.objs.size + 2, s1.heap.objs.size + 3, s1.heap.objs.size, s1.heap.objs.size + 1], _, _, H1, rfl, I2, RZ.turn_zipT (PySem.W.ktu_apart s1.heap.objs.size a b (Heap.lt_size ho1) (Heap.lt_size ho2)), ⟨hz, hTI, ⟨_, _, hTO⟩, h1, h2⟩, fresh, q⟩
      · obtain ⟨its, rv, p1, _⟩ := I1.tuple hqx
        obtain ⟨its2, rv2, p2, _⟩ := I1.list hqy
        obtain ⟨o1, ho1, _⟩ := id p1
        refine call_zipM (show s1.heap.IsTuple a its.toArray from p1) p2.isList fun h' hz hTI hTO h1 h2 hk => wpAny_pyIter_zip hz ?_
        have I2 : Inv X pins σ H1 { s1 with heap := h' } := I1.kept (t' := s1.toks) hk
        exact ⟨_, [s1.heap.objs.size + 4, s1.heap.objs.size + 2, s1.heap.objs.size + 3, s1.heap.objs.size, s1.heap.objs.size + 1], _, _, H1, rfl, I2, turnM (PySem.W.ktu_apart s1.heap.objs.size a b (Heap.lt_size ho1) p2.lt), ⟨hz, hTI, ⟨_, _, hTO⟩, h1, h2⟩, fresh, q⟩
end Tw
set_option Elab.async false
set_option linter.all false
set_option maxRecDepth 100000
set_option maxHeartbeats 1000000
namespace Tw
open PySem PySem.Spec PyProof.Rows L2
abbrev IsZipR (h : Heap) (z TI TO : PySem.Addr) (x0 : Value) (f : Bool) : Prop :=
  h.get? z = some { cls := .type "zip", dict := none, data := .fields #[x0, .bool f, .bool false, .ref TI, .ref TO], slots := #[] }
def NonRaw (x : Value) : Prop := x = .none ∨ ∃ T : PySem.Addr, x = rawInt T
def IsZipN (h : Heap) (z TI TO : PySem.Addr) : Prop := ∃ (x0 : Value) (f : Bool), IsZipR h z TI TO x0 f ∧ NonRaw x0
section
variable {prog : Program} {w : World} {A : Around} {E : Value → Shared → Prop} {s : Shared} {z TI TO i1 i2 l1 l2 : PySem.Addr} {k1 k2 : Nat} {xs ys : Array Value} {x y a b x0 : Value} {f : Bool} {I1 I2 : Heap → Nat → Prop} {L1 L2 : Heap → Array Value → Prop}
theorem alive_any {c : PySem.Addr} {Q : Option Obj → Shared → Prop} (h : Q (s.heap.get? c) s) : wpAny (model prog w) A (loadIfAlive c) Q E s := fun _ _ _ => h
theorem free_or {Q : Bool → Shared → Prop} (hz : IsZipR s.heap z TI TO x0 f) (hx : NonRaw x0) (h1 : Q true s) (h2 : ∀ h', IsZipR h' z TI TO x0 true → Heap.SameBut z s.heap h' → Q false { s with heap := h' }) :
    wpAny (model prog w) A (Builtin.SmallTypes.ownedTupleIsFree (.ref z)) Q E s := by
  unfold Builtin.SmallTypes.ownedTupleIsFree
  refine wpAny_bind (wpAny_field hz rfl (x := x0) rfl ?_)
  rcases hx with rfl | ⟨T, rfl⟩
  · exact wpAny_pure h1
  · show wpAny _ _ (loadIfAlive ((T : Int).toNat) >>= _) _ _ _
    rw [Int.toNat_natCast]
    refine wpAny_bind (alive_any ?_)
    cases hT : s.heap.get? T with
    | none =>
      simp only [Option.isNone_none, if_true]
      exact wpAny_pure h1
    | some o =>
      simp only [Option.isNone_some, Bool.false_eq_true, if_false]
      refine wpAny_bind (wpAny_field hz rfl (x := .bool f) rfl ?_)
      cases f with
      | true =>
        rw [if_neg (show ¬ ((Value.bool true != Value.bool true) = true) from Bool.false_ne_true)]
        exact wpAny_pure (h2 s.heap hz (Heap.SameBut.refl _ _))
      | false =>
        rw [if_pos (show (Value.bool false != Value.bool true) = true from rfl)]
        exact wpAny_bind (wpAny_setField_rec hz (by simp) fun h₁ hz₁ hs₁ => wpAny_pure (h2 h₁ hz₁ hs₁))
theorem zipN_item {Q : Value → Shared → Prop} (D : ZipApart z TI TO i1 i2 l1 l2) (F1 : Feed prog w i1 l1 I1 L1) (F2 : Feed prog w i2 l2 I2 L2)
    (hz : IsZipR s.heap z TI TO x0 f) (hx0 : NonRaw x0) (hTI : IsPair s.heap TI (.ref i1) (.ref i2)) (hTO : IsPair s.heap TO a b) (h1 : I1 s.heap k1) (h2 : I2 s.heap k2) (hl1 : L1 s.heap xs) (hl2 : L2 s.heap ys) (hx : xs[k1]? = some x) (hy : ys[k2]? = some y)
    (hQ : ∀ h', IsZipN h' z TI TO → (∃ x y, IsPair h' TO x y) → I1 h' (k1 + 1) → I2 h' (k2 + 1) → IsPair h' s.heap.objs.size x y → h'.objs.size = s.heap.objs.size + 1 →
      (∀ c o, c ≠ z → c ≠ TO → c ≠ i1 → c ≠ i2 → s.heap.get? c = some o → h'.get? c = some o) → Q (.ref s.heap.objs.size) { s with heap := h' }) :
    wpAny (model prog w) A (Builtin.«zip.__next__» ⟨[.ref z], []⟩) (fun fin s' => ∃ v, fin = .done (.ret v) ∧ Q v s') E s := by
  show wpAny _ _ (field (.ref z) 2 >>= _) _ _ _
  refine wpAny_bind (wpAny_field hz rfl (x := .bool false) rfl ?_)
  show wpAny _ _ (field (.ref z) 3 >>= _) _ _ _
  refine wpAny_bind (wpAny_field hz rfl (x := .ref TI) rfl (wpAny_bind (wpAny_seqItems hTI rfl ?_)))
  show wpAny _ _ (Builtin.SmallTypes.ownedTupleIsFree (.ref z) >>= _) _ _ _
  refine wpAny_bind (free_or hz hx0 ?_ fun h₁ hz₁ hs₁ => ?_)
  · simp only [if_true]
    refine wpAny_bind (wpAny_rule (wpAny_bind (wpAny_field hz rfl (x := .ref TO) rfl (wpAny_bind (wpAny_setField_rec hz (by simp) fun g1 z1 c1 => ?_)))))
    replace z1 : IsZipR g1 z TI TO .ellipsis f := z1
    refine wpAny_bind ?_
    simp only [List.zipIdx_cons, List.zipIdx_nil, List.forIn_cons, List.forIn_nil]
    refine wpAny_bind (wpAny_bind (wpAny_onRaise ?_))
    show wpAny _ _ (Builtin.SmallTypes.nextOf (.ref i1) >>= _) _ _ _
    have e1 : ∀ c o, c ≠ z → s.heap.get? c = some o → g1.get? c = some o := fun c o n q => c1.extBut _ _ n q
    refine wpAny_bind (F1.item (F1.keepI h1 fun o => e1 _ o D.i1z) (F1.keepL hl1 fun o => e1 _ o D.l1z) hx fun g2 j1 c2 => wpAny_pure ?_)
    have e2 : ∀ c o, c ≠ z → c ≠ i1 → s.heap.get? c = some o → g2.get? c = some o := fun c o n m q => c2.extBut _ _ m (e1 c o n q)
    have p2 : IsPair g2 TO a b := e2 _ _ D.TOz D.TOi1 hTO
    refine wpAny_bind (wpAny_seqItems p2 rfl (wpAny_bind (wpAny_updateSeq_pair p2 fun g3 p3 c3 => wpAny_bind (wpAny_letGo (wpAny_pure ?_)))))
    replace p3 : IsPair g3 TO x b := p3
    have e3 : ∀ c o, c ≠ z → c ≠ i1 → c ≠ TO → s.heap.get? c = some o → g3.get? c = some o := fun c o n m r q => c3.extBut _ _ r (e2 c o n m q)
    refine wpAny_bind (wpAny_bind (wpAny_onRaise ?_))
    show wpAny _ _ (Builtin.SmallTypes.nextOf (.ref i2) >>= _) _ _ _
    refine wpAny_bind (F2.item (F2.keepI h2 fun o => e3 _ o D.i2z D.i12.symm D.TOi2.symm) (F2.keepL hl2 fun o => e3 _ o D.l2z D.l2i1 D.l2TO) hy fun g4 j2 c4 => wpAny_pure ?_)
    have p4 : IsPair g4 TO x b := c4.extBut _ _ D.TOi2 p3
    refine wpAny_bind (wpAny_seqItems p4 rfl (wpAny_bind (wpAny_updateSeq_pair p4 fun g5 p5 c5 => wpAny_bind (wpAny_letGo (wpAny_pure (wpAny_pure ?_))))))
    replace p5 : IsPair g5 TO x y := p5
    refine wpAny_bind (wpAny_seqItems p5 rfl (wpAny_bind (wpAny_newTuple ?_)))
    have sz : g5.objs.size = s.heap.objs.size := by rw [c5.1, c4.1, c3.1, c2.1, c1.1]
    have e5 : ∀ c o, c ≠ z → c ≠ TO → c ≠ i1 → c ≠ i2 → s.heap.get? c = some o → g5.get? c = some o := fun c o n r m u q => c5.extBut _ _ r (c4.extBut _ _ u (e3 c o n m r q))
    have z5 : IsZipR g5 z TI TO .ellipsis f := c5.extBut _ _ D.TOz.symm (c4.extBut _ _ D.i2z.symm (c3.extBut _ _ D.TOz.symm (c2.extBut _ _ D.i1z.symm z1)))
    have j15 : I1 g5 (k1 + 1) := F1.keepI j1 fun o q => c5.extBut _ _ D.TOi1.symm (c4.extBut _ _ D.i12 (c3.extBut _ _ D.TOi1.symm q))
    have j25 : I2 g5 (k2 + 1) := F2.keepI j2 fun o q => c5.extBut _ _ D.TOi2.symm q
    have zlt : z < g5.objs.size := Heap.lt_size z5
    show wpAny _ _ (Builtin.SmallTypes.ownedTupleHandOut (.ref z) (.ref g5.objs.size) >>= _) _ _ _
    unfold Builtin.SmallTypes.ownedTupleHandOut
    have z6 : IsZipR (g5.push { cls := .type "tuple", data := .seq #[x, y] }) z TI TO .ellipsis f := Heap.get?_push_of_some _ z5
    refine wpAny_bind (wpAny_bind (wpAny_setField_rec z6 (by simp) fun g7 z7 c7 => ?_))
    replace z7 : IsZipR g7 z TI TO (rawInt g5.objs.size) f := z7
    refine wpAny_setField_rec z7 (by simp) fun g8 z8 c8 => ?_
    replace z8 : IsZipR g8 z TI TO (rawInt g5.objs.size) false := z8
    have up : ∀ c o, c ≠ z → g5.get? c = some o → g8.get? c = some o := fun c o n q => c8.extBut _ _ n (c7.extBut _ _ n (Heap.get?_push_of_some _ q))
    have p8 : IsPair g8 g5.objs.size x y := c8.extBut _ _ (Nat.ne_of_gt zlt) (c7.extBut _ _ (Nat.ne_of_gt zlt) (Heap.get?_push_size _ rfl))
    have s8 : g8.objs.size = g5.objs.size + 1 := by rw [c8.1, c7.1, Heap.size_push]
    refine wpAny_pure ⟨_, rfl, ?_⟩
    show Q (.ref g5.objs.size) _
    have zn : IsZipN g8 z TI TO := ⟨_, _, z8, .inr ⟨_, rfl⟩⟩
    rw [sz] at p8 s8 ⊢
    exact hQ g8 zn ⟨_, _, up _ _ D.TOz p5⟩ (F1.keepI j15 fun o => up _ o D.i1z) (F2.keepI j25 fun o => up _ o D.i2z) p8 s8 fun c o n r m u q => up c o n (e5 c o n r m u q)
  · simp only [Bool.false_eq_true, if_false]
    refine wpAny_bind ?_
    rw [← Array.forIn_toList]
    simp only [List.forIn_cons, List.forIn_nil]
    refine wpAny_bind (wpAny_bind (wpAny_holding ?_))
    show wpAny _ _ (Builtin.SmallTypes.nextOf (.ref i1) >>= _) _ _ _
    have e1 : ∀ c o, c ≠ z → s.heap.get? c = some o → h₁.get? c = some o := fun c o n q => hs₁.extBut _ _ n q
    refine wpAny_bind (F1.item (s := { s with heap := h₁ }) (F1.keepI h1 fun o => e1 _ o D.i1z) (F1.keepL hl1 fun o => e1 _ o D.l1z) hx fun h₂ j1 c2 => wpAny_pure ?_)
    refine wpAny_pure ?_
    refine wpAny_bind (wpAny_bind (wpAny_holding ?_))
    show wpAny _ _ (Builtin.SmallTypes.nextOf (.ref i2) >>= _) _ _ _
    have e2 : ∀ c o, c ≠ z → c ≠ i1 → s.heap.get? c = some o → h₂.get? c = some o := fun c o n m q => c2.extBut _ _ m (e1 c o n q)
    refine wpAny_bind (F2.item (s := { s with heap := h₂ }) (F2.keepI h2 fun o => e2 _ o D.i2z D.i12.symm) (F2.keepL hl2 fun o => e2 _ o D.l2z D.l2i1) hy fun h₃ j2 c3 => wpAny_pure ?_)
    refine wpAny_pure (wpAny_pure ?_)
    show wpAny _ _ (newTuple [x, y] >>= _) _ _ _
    refine wpAny_bind (wpAny_newTuple ?_)
    have hsz : h₃.objs.size = s.heap.objs.size := by rw [c3.1, c2.1, hs₁.1]
    have hz₃ : IsZipR h₃ z TI TO x0 true := c3.extBut _ _ D.i2z.symm (c2.extBut _ _ D.i1z.symm hz₁)
    have hk : ∀ c o, c ≠ z → c ≠ i1 → c ≠ i2 → s.heap.get? c = some o → h₃.get? c = some o := fun c o c1 c2' c3' e => c3.extBut _ _ c3' (e2 c o c1 c2' e)
    have j13 : I1 h₃ (k1 + 1) := F1.keepI j1 fun o q => c3.extBut _ _ D.i12 q
    refine wpAny_pure ⟨_, rfl, ?_⟩
    show Q (.ref h₃.objs.size) _
    have hp : IsPair (h₃.push { cls := .type "tuple", data := .seq #[x, y] }) h₃.objs.size x y := Heap.get?_push_size _ rfl
    have hz4 : (h₃.push { cls := .type "tuple", data := .seq #[x, y] }).objs.size = h₃.objs.size + 1 := Heap.size_push ..
    rw [hsz] at hp hz4 ⊢
    exact hQ _ ⟨_, _, Heap.get?_push_of_some _ hz₃, hx0⟩ ⟨_, _, Heap.get?_push_of_some _ (hk _ _ D.TOz D.TOi1 D.TOi2 hTO)⟩ (F1.keepI j13 fun o e => Heap.get?_push_of_some _ e) (F2.keepI j2 fun o e => Heap.get?_push_of_some _ e) hp hz4 fun c o c1 _ c2 c3 e => Heap.get?_push_of_some _ (hk c o c1 c2 c3 e)
theorem zipN_stop {Q : Fin → Shared → Prop} (hh : A.handled = none) (D : ZipApart z TI TO i1 i2 l1 l2) (F1 : Feed prog w i1 l1 I1 L1) (F2 : Feed prog w i2 l2 I2 L2)
    (hz : IsZipR s.heap z TI TO x0 f) (hx0 : NonRaw x0) (hTI : IsPair s.heap TI (.ref i1) (.ref i2)) (hTO : IsPair s.heap TO a b) (h1 : I1 s.heap k1) (h2 : I2 s.heap k2) (hl1 : L1 s.heap xs) (hl2 : L2 s.heap ys) (hend : xs[k1]? = none ∨ ys[k2]? = none)
    (hE : ∀ h' e, (∀ c o, c ≠ z → c ≠ TO → c ≠ i1 → c ≠ i2 → s.heap.get? c = some o → h'.get? c = some o) → (∃ o, h'.get? e = some o ∧ o.cls = .type "StopIteration") → E (.ref e) { s with heap := h' }) :
    wpAny (model prog w) A (Builtin.«zip.__next__» ⟨[.ref z], []⟩) Q E s := by
  show wpAny _ _ (field (.ref z) 2 >>= _) _ _ _
  refine wpAny_bind (wpAny_field hz rfl (x := .bool false) rfl ?_)
  show wpAny _ _ (field (.ref z) 3 >>= _) _ _ _
  refine wpAny_bind (wpAny_field hz rfl (x := .ref TI) rfl (wpAny_bind (wpAny_seqItems hTI rfl ?_)))
  show wpAny _ _ (Builtin.SmallTypes.ownedTupleIsFree (.ref z) >>= _) _ _ _
  refine wpAny_bind (free_or hz hx0 ?_ fun h₁ hz₁ hs₁ => ?_)
  · simp only [if_true]
    refine wpAny_bind (wpAny_rule (wpAny_bind (wpAny_field hz rfl (x := .ref TO) rfl (wpAny_bind (wpAny_setField_rec hz (by simp) fun g1 z1 c1 => ?_)))))
    replace z1 : IsZipR g1 z TI TO .ellipsis f := z1
    refine wpAny_bind ?_
    simp only [List.zipIdx_cons, List.zipIdx_nil, List.forIn_cons, List.forIn_nil]
    refine wpAny_bind (wpAny_bind (wpAny_onRaise ?_))
    show wpAny _ _ (Builtin.SmallTypes.nextOf (.ref i1) >>= _) _ _ _
    have e1 : ∀ c o, c ≠ z → s.heap.get? c = some o → g1.get? c = some o := fun c o n q => c1.extBut _ _ n q
    have w1 := F1.keepI h1 fun o => e1 _ o D.i1z
    have v1 := F1.keepL hl1 fun o => e1 _ o D.l1z
    have ends : ∀ (g : Heap) (e : PySem.Addr), IsZipR g z TI TO .ellipsis f → (∀ c o, c ≠ z → c ≠ TO → c ≠ i1 → c ≠ i2 → s.heap.get? c = some o → g.get? c = some o) → (∃ o, g.get? e = some o ∧ o.cls = .type "StopIteration") →
        ∀ h', Heap.SameBut z g h' → E (.ref e) { s with heap := h' } := fun g e zz keep ⟨o, ho, hc⟩ h' c => by
      have ez : e ≠ z := fun q => by
        subst q
        rw [zz] at ho
        cases ho
        simp at hc
      exact hE h' e (fun c' o' n r m u q => c.extBut _ _ n (keep c' o' n r m u q)) ⟨o, c.extBut _ _ ez ho, hc⟩
    cases hx : xs[k1]? with
    | none =>
      refine wpAny_bind (F1.stop hh w1 v1 hx fun g2 e c2 he => ?_)
      have zz : IsZipR g2 z TI TO .ellipsis f := c2 _ _ D.i1z.symm z1
      exact wpAny_setField_rec zz (by simp) fun g3 _ c3 => ends g2 e zz (fun c o n r m u q => c2 _ _ m (e1 c o n q)) he g3 c3
    | some x =>
      have hy : ys[k2]? = none := hend.resolve_left (by rw [hx]; simp)
      refine wpAny_bind (F1.item w1 v1 hx fun g2 j1 c2 => wpAny_pure ?_)
      have p2 : IsPair g2 TO a b := c2.extBut _ _ D.TOi1 (e1 _ _ D.TOz hTO)
      refine wpAny_bind (wpAny_seqItems p2 rfl (wpAny_bind (wpAny_updateSeq_pair p2 fun g3 p3 c3 => wpAny_bind (wpAny_letGo (wpAny_pure ?_)))))
      have e3 : ∀ c o, c ≠ z → c ≠ i1 → c ≠ TO → s.heap.get? c = some o → g3.get? c = some o := fun c o n m r q => c3.extBut _ _ r (c2.extBut _ _ m (e1 c o n q))
      refine wpAny_bind (wpAny_bind (wpAny_onRaise ?_))
      show wpAny _ _ (Builtin.SmallTypes.nextOf (.ref i2) >>= _) _ _ _
      refine wpAny_bind (F2.stop hh (F2.keepI h2 fun o => e3 _ o D.i2z D.i12.symm D.TOi2.symm) (F2.keepL hl2 fun o => e3 _ o D.l2z D.l2i1 D.l2TO) hy fun g4 e c4 he => ?_)
      have zz : IsZipR g4 z TI TO .ellipsis f := c4 _ _ D.i2z.symm (c3.extBut _ _ D.TOz.symm (c2.extBut _ _ D.i1z.symm z1))
      exact wpAny_setField_rec zz (by simp) fun g5 _ c5 => ends g4 e zz (fun c o n r m u q => c4 _ _ u (e3 c o n m r q)) he g5 c5
  · simp only [Bool.false_eq_true, if_false]
    refine wpAny_bind ?_
    rw [← Array.forIn_toList]
    simp only [List.forIn_cons, List.forIn_nil]
    refine wpAny_bind (wpAny_bind (wpAny_holding ?_))
    show wpAny _ _ (Builtin.SmallTypes.nextOf (.ref i1) >>= _) _ _ _
    have e1 : ∀ c o, c ≠ z → s.heap.get? c = some o → h₁.get? c = some o := fun c o n q => hs₁.extBut _ _ n q
    have w1 := F1.keepI h1 fun o => e1 _ o D.i1z
    have v1 := F1.keepL hl1 fun o => e1 _ o D.l1z
    cases hx : xs[k1]? with
    | none =>
      refine wpAny_bind (F1.stop (s := { s with heap := h₁ }) hh w1 v1 hx fun g2 e c2 he => ?_)
      exact hE g2 e (fun c o n _ m _ q => c2 _ _ m (e1 c o n q)) he
    | some x =>
      have hy : ys[k2]? = none := hend.resolve_left (by rw [hx]; simp)
      refine wpAny_bind (F1.item (s := { s with heap := h₁ }) w1 v1 hx fun h₂ j1 c2 => wpAny_pure ?_)
      refine wpAny_pure ?_
      refine wpAny_bind (wpAny_bind (wpAny_holding ?_))
      show wpAny _ _ (Builtin.SmallTypes.nextOf (.ref i2) >>= _) _ _ _
      have e2 : ∀ c o, c ≠ z → c ≠ i1 → s.heap.get? c = some o → h₂.get? c = some o := fun c o n m q => c2.extBut _ _ m (e1 c o n q)
      refine wpAny_bind (F2.stop (s := { s with heap := h₂ }) hh (F2.keepI h2 fun o => e2 _ o D.i2z D.i12.symm) (F2.keepL hl2 fun o => e2 _ o D.l2z D.l2i1) hy fun h₃ e c3 he => ?_)
      exact hE h₃ e (fun c o n _ m u q => c3 _ _ u (e2 c o n m q)) he
theorem pyNextN_item {Q : Option Value → Shared → Prop} (D : ZipApart z TI TO i1 i2 l1 l2) (F1 : Feed prog w i1 l1 I1 L1) (F2 : Feed prog w i2 l2 I2 L2)
    (hz : IsZipN s.heap z TI TO) (hTI : IsPair s.heap TI (.ref i1) (.ref i2)) (hTO : IsPair s.heap TO a b) (h1 : I1 s.heap k1) (h2 : I2 s.heap k2) (hl1 : L1 s.heap xs) (hl2 : L2 s.heap ys) (hx : xs[k1]? = some x) (hy : ys[k2]? = some y)
    (hQ : ∀ h', IsZipN h' z TI TO → (∃ x y, IsPair h' TO x y) → I1 h' (k1 + 1) → I2 h' (k2 + 1) → IsPair h' s.heap.objs.size x y → h'.objs.size = s.heap.objs.size + 1 →
      (∀ c o, c ≠ z → c ≠ TO → c ≠ i1 → c ≠ i2 → s.heap.get? c = some o → h'.get? c = some o) → Q (some (.ref s.heap.objs.size)) { s with heap := h' }) :
    wpAny (model prog w) A (pyNext (.ref z)) Q E s := by
  obtain ⟨x0, f, hz, hx0⟩ := hz
  have hT : s.TypeIs (.ref z) "zip" := ⟨_, hz, rfl⟩
  unfold pyNext
  exact wpAny_bind (wpAny_attempt (wpAny_callSpecial?_slot (name := Str.ofString "__next__") hT F.slot_zip_next
    (wpAny_call_entry F.slot_zip_next hT F.entry_zip_next (zipN_item D F1 F2 hz hx0 hTI hTO h1 h2 hl1 hl2 hx hy fun h' a1 a2 a3 a4 a5 a6 a7 => wpAny_pure (hQ h' a1 a2 a3 a4 a5 a6 a7)) (F.args_zip_next_1 _))))
theorem pyNextN_stop {Q : Option Value → Shared → Prop} (hh : A.handled = none) (D : ZipApart z TI TO i1 i2 l1 l2) (F1 : Feed prog w i1 l1 I1 L1) (F2 : Feed prog w i2 l2 I2 L2)
    (hz : IsZipN s.heap z TI TO) (hTI : IsPair s.heap TI (.ref i1) (.ref i2)) (hTO : IsPair s.heap TO a b) (h1 : I1 s.heap k1) (h2 : I2 s.heap k2) (hl1 : L1 s.heap xs) (hl2 : L2 s.heap ys) (hend : xs[k1]? = none ∨ ys[k2]? = none)
    (hQ : ∀ h', (∀ c o, c ≠ z → c ≠ TO → c ≠ i1 → c ≠ i2 → s.heap.get? c = some o → h'.get? c = some o) → Q none { s with heap := h' }) : wpAny (model prog w) A (pyNext (.ref z)) Q E s := by
  obtain ⟨x0, f, hz, hx0⟩ := hz
  have hT : s.TypeIs (.ref z) "zip" := ⟨_, hz, rfl⟩
  unfold pyNext
  refine wpAny_bind (wpAny_attempt (wpAny_callSpecial?_slot (name := Str.ofString "__next__") hT F.slot_zip_next
    (wpAny_call_entry F.slot_zip_next hT F.entry_zip_next (zipN_stop hh D F1 F2 hz hx0 hTI hTO h1 h2 hl1 hl2 hend fun h' e hk he => ?_) (F.args_zip_next_1 _))))
  obtain ⟨o, ho, hc⟩ := he
  exact wpAny_bind (wpAny_isInstance (T := "StopIteration") (b := true) ⟨o, ho, hc⟩ isSubtype_stop (wpAny_pure (hQ _ hk)))
end
structure Rdr (K : PySem.W.Frag) (P : Hp → List V → Prop) (L : Heap → Array Value → Prop) : Prop where
  rd : ∀ {X : Cx} {pins : List (PySem.Addr × Obj)} {σ : L2.St} {H : Hp} {s : Shared} {xs : List V}, X.K = K → Inv X pins σ H s → P H xs → ∃ its : List Value, Vals xs its ∧ L s.heap its.toArray
  inj : ∀ {X : Cx} {pins : List (PySem.Addr × Obj)} {σ : L2.St} {H : Hp} {s : Shared} {xs ys : List V}, X.K = K → Inv X pins σ H s → P H xs → P H ys → xs = ys
theorem rdrT {K : PySem.W.Frag} (a : PySem.Addr) : Rdr K (fun H xs => SqT K H a xs) (fun h xs => h.IsTuple a xs) where
  rd := fun hK I h => by
    subst hK
    obtain ⟨its, r, p, _⟩ := I.tuple h
    exact ⟨its, r, p⟩
  inj := fun hK I h h' => by subst hK; exact I.tuple_inj h h'
theorem rdrL {K : PySem.W.Frag} (a : PySem.Addr) : Rdr K (fun H xs => SqL K H a xs) (fun h xs => h.IsList a xs) where
  rd := fun hK I h => by
    subst hK
    obtain ⟨its, r, p, _⟩ := I.list h
    exact ⟨its, r, p.isList⟩
  inj := fun hK I h h' => by subst hK; exact I.list_inj h h'
def ItzG (P1 P2 : Hp → List V → Prop) : L2.It :=
  ⟨fun i H => ∃ (xs ys : List V) (x y : V), P1 H xs ∧ P2 H ys ∧ xs[i]? = some x ∧ ys[i]? = some y,
    fun i H v H' => ∃ T x y, v = .ref T ∧ H T = none ∧ H' = upd H T (.tup [x, y]) ∧ (∀ xs, P1 H xs → xs[i]? = some x) ∧ ∀ ys, P2 H ys → ys[i]? = some y,
    fun i H => ∃ xs ys : List V, P1 H xs ∧ P2 H ys ∧ (xs.length ≤ i ∨ ys.length ≤ i)⟩
theorem turnN {P : Program} {w : World} {K : PySem.W.Frag} {nm : Str} {tpos : Pos} {a b z TI TO i1 i2 : PySem.Addr} {P1 P2 : Hp → List V → Prop} {I1 I2 : Heap → Nat → Prop} {L1 L2 : Heap → Array Value → Prop} (D : ZipApart z TI TO i1 i2 a b) (F1 : Feed P w i1 a I1 L1) (F2 : Feed P w i2 b I2 L2) (R1 : Rdr K P1 L1) (R2 : Rdr K P2 L2) :
    Turn P w K (.Name nm tpos) (ItzG P1 P2) [z, TI, TO, i1, i2] z (fun i h => IsZipN h z TI TO ∧ IsPair h TI (.ref i1) (.ref i2) ∧ (∃ x y, IsPair h TO x y) ∧ I1 h i ∧ I2 h i) where
  mem := by simp
  obj := fun i h st c hc => by
    obtain ⟨⟨x0, f, hz, _⟩, hTI, ⟨x, y, hTO⟩, h1, h2⟩ := st
    rcases five hc with rfl | rfl | rfl | rfl | rfl
    · exact ⟨_, hz, fun v q => nomatch q⟩
    · exact ⟨_, hTI, fun v q => nomatch q⟩
    · exact ⟨_, hTO, fun v q => nomatch q⟩
    · obtain ⟨o1, n, e1, d1⟩ := F1.obj h1
      exact ⟨o1, e1, fun v q => by rw [d1] at q; cases q⟩
    · obtain ⟨o2, n, e2, d2⟩ := F2.obj h2
      exact ⟨o2, e2, fun v q => by rw [d2] at q; cases q⟩
  keep := fun i h h' st k => by
    obtain ⟨⟨x0, f, hz, hx0⟩, hTI, ⟨x, y, hTO⟩, h1, h2⟩ := st
    exact ⟨⟨x0, f, k z (by simp) _ hz, hx0⟩, k TI (by simp) _ hTI, ⟨x, y, k TO (by simp) _ hTO⟩, F1.keepI h1 fun o q => k i1 (by simp) o q, F2.keepI h2 fun o q => k i2 (by simp) o q⟩
  item := by
    intro X hP hw hK hc i pins s σ H E I hf st hg
    subst hP hw hK
    obtain ⟨hz, hTI, ⟨x0, y0, hTO⟩, h1, h2⟩ := st
    obtain ⟨xs, ys, x, y, hqx, hqy, hx, hy⟩ := hg
    obtain ⟨its, rv, p⟩ := R1.rd rfl I hqx
    obtain ⟨its2, rv2, p2⟩ := R2.rd rfl I hqy
    obtain ⟨u, hu, ru⟩ := rv.get hx
    obtain ⟨u2, hu2, ru2⟩ := rv2.get hy
    have zlt : z < s.heap.objs.size := by
      obtain ⟨_, _, hz, _⟩ := hz
      exact Heap.lt_size hz
    refine pyNextN_item D F1 F2 hz hTI hTO h1 h2 p p2 (xs := its.toArray) (ys := its2.toArray) (x := u) (y := u2) (by simpa using hu) (by simpa using hu2) fun h' z' TO' h1' h2' hT _ hk => ?_
    refine ⟨_, rfl, ?_⟩
    unfold letOwnedTupleGo
    refine wpAny_pure ?_
    have new : ObjOk X.prog X.w (upd H s.heap.objs.size (.tup [x, y])) h' s.heap.objs.size (.tup [x, y]) := ⟨by show 2 ≤ sizeLine; decide, [u, u2], .cons ru (.cons ru2 .nil), ⟨_, hT, rfl, _, rfl⟩⟩
    have kept : ∀ c o, c ∉ [z, TI, TO, i1, i2] → s.heap.get? c = some o → h'.get? c = some o := fun c o hb q => by
      simp only [List.mem_cons, List.not_mem_nil, or_false, not_or] at hb
      exact hk c o hb.1 hb.2.2.1 hb.2.2.2.1 hb.2.2.2.2 q
    have I1' : Inv X pins σ (upd H s.heap.objs.size (.tup [x, y])) { s with heap := h' } := I.turnedNew (t' := s.toks) (ch := [z, TI, TO, i1, i2]) kept hf (Nat.le_refl _) new
    refine ⟨.ref s.heap.objs.size, _, I1', rfl, ⟨_, x, y, rfl, I.hok.fresh (Nat.le_refl _), rfl, fun l hl => by rw [R1.inj rfl I hl hqx]; exact hx, fun l hl => by rw [R2.inj rfl I hl hqy]; exact hy⟩, ⟨z', hk _ _ D.TIz D.TITO D.TIi1 D.TIi2 hTI, TO', h1', h2'⟩, fun c hcm => ?_⟩
    have hlt : c < s.heap.objs.size := by
      rcases five hcm with rfl | rfl | rfl | rfl | rfl
      · exact zlt
      · exact Heap.lt_size hTI
      · exact Heap.lt_size hTO
      · exact F1.lt h1
      · exact F2.lt h2
    rw [upd_ne (Nat.ne_of_lt hlt)]
    exact (hf c hcm).1
  done := by
    intro X hP hw hK hc i pins s σ H E I hf st hg
    subst hP hw hK
    obtain ⟨hz, hTI, ⟨x0, y0, hTO⟩, h1, h2⟩ := st
    obtain ⟨xs, ys, hqx, hqy, hend⟩ := hg
    obtain ⟨its, rv, p⟩ := R1.rd rfl I hqx
    obtain ⟨its2, rv2, p2⟩ := R2.rd rfl I hqy
    have n1 := rv.length
    have n2 := rv2.length
    have he : its.toArray[i]? = none ∨ its2.toArray[i]? = none := by
      rcases hend with q | q
      · exact .inl (by simp; omega)
      · exact .inr (by simp; omega)
    exact pyNextN_stop (I.ok.hd hc) D F1 F2 hz hTI hTO h1 h2 p p2 he fun h' hk => ⟨rfl, I.turnedL (t' := s.toks) (ch := [z, TI, TO, i1, i2]) (fun c o hb q => by
      simp only [List.mem_cons, List.not_mem_nil, or_false, not_or] at hb
      exact hk c o hb.1 hb.2.2.1 hb.2.2.2.1 hb.2.2.2.2 q) hf⟩
  self := fun A i s Q E st h => by
    obtain ⟨⟨x0, f, hz, _⟩, _⟩ := st
    have hT : s.TypeIs (.ref z) "zip" := ⟨_, hz, rfl⟩
    refine wpAny_pyIter_slot hT F.slot_zip_iter (wpAny_call_entry F.slot_zip_iter hT F.entry_zip_iter ?_ (F.args_zip_iter_1 _))
    show wpAny _ _ (ret (.ref z)) _ _ s
    exact wpAny_pure ⟨_, rfl, "zip", _, hT, F.slot_zip_next.lookup, h⟩
theorem isZip_n {h : Heap} {z TI TO : PySem.Addr} (hz : IsZip h z TI TO .none) : IsZipN h z TI TO := ⟨_, _, hz, .inl rfl⟩
theorem pi_zip3N {X : Cx} {e e2 : Expr} {ta : TA} {p pos tpos : Pos} {nm : Str} (hg : Gl X "zip") (hm : X.mg "zip" = none) (ha : PA X [e, e2] ta)
    (hs : starEach [e, e2] X.env = (false, eval e X.env) :: starEach [e2] X.env := by rfl) (hpl : (backTo pos (starEach [e2] X.env)).any (·.1) = false := by rfl) :
    PI X (.Name nm tpos) (.Call (.Name "zip" p) [e, e2] [] pos) (iZip3 X.K ta) := by
  refine ⟨fun pins s σ H R I h => ?_⟩
  refine Call_ (ld_blt I hg hm PyProof.Rows.boot_zip (PyProof.Rows.callWith_type1 (thn (ha.run pos pins s σ H _ I h) fun us s1 ⟨vs, H1, I1, r1, q1⟩ => ?_) hs hpl))
  obtain ⟨a, b, xs, ys, ex, q⟩ := q1
  subst ex
  cases r1 with
  | cons r rr =>
    cases rr with
    | cons r' rr =>
      cases rr
      cases r
      cases r'
      have fresh : ∀ c, c ∈ [s1.heap.objs.size + 4, s1.heap.objs.size + 2, s1.heap.objs.size + 3, s1.heap.objs.size, s1.heap.objs.size + 1] → FpOk X pins H1 c := fun c hcm => by
        have hle : s1.heap.objs.size ≤ c := by
          rcases five hcm with rfl | rfl | rfl | rfl | rfl <;> omega
        exact I1.fpOk hle (I1.hok.fresh hle)
      rcases q with ⟨hqx, hqy, q⟩ | ⟨hqx, hqy, q⟩ | ⟨hqx, hqy, q⟩
      · obtain ⟨its, rv, p1, _⟩ := I1.list hqx
        obtain ⟨its2, rv2, p2, _⟩ := I1.list hqy
        refine call_zip_2 p1.isList p2.isList fun h' hz hTI hTO h1 h2 _ hk => wpAny_pyIter_zip hz ?_
        have I2 : Inv X pins σ H1 { s1 with heap := h' } := I1.kept (t' := s1.toks) hk
        exact ⟨_, [s1.heap.objs.size + 4, s1.heap.objs.size + 2, s1.heap.objs.size + 3, s1.heap.objs.size, s1.heap.objs.size + 1], _, Itz X.K a b, H1, rfl, I2, turnN (P1 := fun H xs => SqL X.K H a xs) (P2 := fun H xs => SqL X.K H b xs) (PySem.W.ktu_apart s1.heap.objs.size a b p1.lt p2.lt) (feedL _ a) (feedL _ b) (rdrL a) (rdrL b), ⟨isZip_n hz, hTI, ⟨_, _, hTO⟩, h1, h2⟩, fresh, q⟩
      · obtain ⟨its, rv, p1, _⟩ := I1.tuple hqx
        obtain ⟨its2, rv2, p2, _⟩ := I1.tuple hqy
        obtain ⟨o1, ho1, _⟩ := id p1
        obtain ⟨o2, ho2, _⟩ := id p2
        refine RZ.call_zipT (show s1.heap.IsTuple a its.toArray from p1) (show s1.heap.IsTuple b its2.toArray from p2) fun h' hz hTI hTO h1 h2 _ hk => wpAny_pyIter_zip hz ?_
        have I2 : Inv X pins σ H1 { s1 with heap := h' } := I1.kept (t' := s1.toks) hk
        exact ⟨_, [s1.heap.objs.size + 4, s1.heap.objs.size + 2, s1.heap.objs.size + 3, s1.heap.objs.size, s1.heap.objs.size + 1], _, RZ.ItzT X.K a b, H1, rfl, I2, turnN (P1 := fun H xs => SqT X.K H a xs) (P2 := fun H xs => SqT X.K H b xs) (PySem.W.ktu_apart s1.heap.objs.size a b (Heap.lt_size ho1) (Heap.lt_size ho2)) (feedT _ a) (feedT _ b) (rdrT a) (rdrT b), ⟨isZip_n hz, hTI, ⟨_, _, hTO⟩, h1, h2⟩, fresh, q⟩
      · obtain ⟨its, rv, p1, _⟩ := I1.tuple hqx
        obtain ⟨its2, rv2, p2, _⟩ := I1.list hqy
        obtain ⟨o1, ho1, _⟩ := id p1
        refine call_zipM (show s1.heap.IsTuple a its.toArray from p1) p2.isList fun h' hz hTI hTO h1 h2 hk => wpAny_pyIter_zip hz ?_
        have I2 : Inv X pins σ H1 { s1 with heap := h' } := I1.kept (t' := s1.toks) hk
        exact ⟨_, [s1.heap.objs.size + 4, s1.heap.objs.size + 2, s1.heap.objs.size + 3, s1.heap.objs.size, s1.heap.objs.size + 1], _, ItzM X.K a b, H1, rfl, I2, turnN (P1 := fun H xs => SqT X.K H a xs) (P2 := fun H xs => SqL X.K H b xs) (PySem.W.ktu_apart s1.heap.objs.size a b (Heap.lt_size ho1) p2.lt) (feedT _ a) (feedL _ b) (rdrT a) (rdrL b), ⟨isZip_n hz, hTI, ⟨_, _, hTO⟩, h1, h2⟩, fresh, q⟩
end Tw
set_option Elab.async false
set_option linter.all false
set_option autoImplicit false
set_option maxRecDepth 100000
namespace Tw
open PySem PySem.Spec PyProof.Rows L2
section
variable {K : PySem.W.Frag} {m : Mp} {H : Hp} {S : Hs}
theorem SimE.set {σv : Sv} {σ : L2.St} {x : VV} {v : V} (h : SimE K m H σv σ) (r : R K m H x v) (i : Nat) : SimE K m H (σv.set i (some x)) (σ.set i (some v)) := by
  refine ⟨by simp [h.len], fun j y e => ?_⟩
  by_cases hj : i = j
  · subst hj
    by_cases hl : i < σv.length
    · rw [List.getElem?_set_self hl] at e
      cases e
      exact ⟨v, List.getElem?_set_self (by rw [h.len]; exact hl), r⟩
    · rw [List.getElem?_eq_none (by simpa using hl)] at e
      cases e
  · rw [List.getElem?_set_ne hj] at e ⊢
    exact h.get j y e
theorem SimE.wip {σv : Sv} {σ : L2.St} (h : SimE K m H σv σ) : ∀ own : List Nat, SimE K m H (wip σv own) (wipe σ own)
  | [] => h
  | v :: vs => by
    have ih := SimE.wip h vs
    unfold Tw.wip wipe
    refine ⟨by simp [ih.len], fun j y e => ?_⟩
    by_cases hj : v = j
    · subst hj
      by_cases hl : v < (Tw.wip σv vs).length
      · rw [List.getElem?_set_self hl] at e; cases e
      · rw [List.getElem?_eq_none (by simpa using hl)] at e; cases e
    · rw [List.getElem?_set_ne hj] at e ⊢
      exact ih.get j y e
mutual
/-- the slots of a target -/
def tvs : Tg → List Nat
  | .var i => [i]
  | .tup ts => tvss ts
def tvss : List Tg → List Nat
  | [] => []
  | t :: ts => tvs t ++ tvss ts
end
def Like (is : List Nat) (σ σ' : L2.St) : Prop := σ'.length = σ.length ∧ ∀ j, j ∉ is → σ'[j]? = σ[j]?
theorem Like.trans {a b : List Nat} {σ σ1 σ2 : L2.St} (h : Like a σ σ1) (k : Like b σ1 σ2) : Like (a ++ b) σ σ2 :=
  ⟨k.1.trans h.1, fun j hj => by rw [List.mem_append, not_or] at hj; rw [k.2 j hj.2, h.2 j hj.1]⟩
def rdG (K : PySem.W.Frag) (tg : Tg) : TG := fun v σ H Q => ∃ m x σv σv', R K m H x v ∧ SimE K m H σv σ ∧ asg tg x σv = some σv' ∧ ∀ σ', SimE K m H σv' σ' → Like (tvs tg) σ σ' → Q σ' H
def rdGs (K : PySem.W.Frag) (tgs : List Tg) : TGs := fun vs σ H Q => ∃ m xs σv σv', Rs K m H xs vs ∧ SimE K m H σv σ ∧ asgs tgs xs σv = some σv' ∧ ∀ σ', SimE K m H σv' σ' → Like (tvss tgs) σ σ' → Q σ' H
theorem PG.imp {X : Cx} {e : Expr} {t t' : TG} (h : PG X e t) (i : ∀ v σ H Q, t' v σ H Q → t v σ H Q) : PG X e t' := ⟨fun pins s σ H v u Q I r q => h.run pins s σ H v u Q I r (i v σ H Q q)⟩
theorem PGs.imp {X : Cx} {e : List Expr} {t t' : TGs} (h : PGs X e t) (i : ∀ v σ H Q, t' v σ H Q → t v σ H Q) : PGs X e t' := ⟨fun pins s σ H v u Q I r q => h.run pins s σ H v u Q I r (i v σ H Q q)⟩
end
section
variable {X : Cx}
theorem pg_var {i : Nat} {x : Str} {pos : Pos} (hN : X.N.Nodup) (hi : X.N[i]? = some x) (hx : Loc X.env.scope x) (hf : X.fn x = true ∨ X.env.scope.names.lookup x = some .local) : PG X (.Name x pos) (rdG X.K (.var i)) :=
  PG.imp (pg_name hN hi hx hf) fun v σ H Q ⟨m, x, σv, σv', r, s, e, k⟩ => by
    cases e
    exact k _ (s.set r i) ⟨by simp, fun j hj => by rw [List.getElem?_set_ne (fun q => hj (by rw [← q]; exact List.mem_cons_self))]⟩
theorem pgs_nil' : PGs X [] (rdGs X.K []) := PGs.imp pgs_nil fun vs σ H Q ⟨m, xs, σv, σv', r, s, e, k⟩ => by
  cases r with
  | nil =>
    cases e
    exact ⟨rfl, k σ s ⟨rfl, fun _ _ => rfl⟩⟩
  | cons _ _ => cases e
theorem assignEach_cons {e : Expr} {es : List Expr} {env : Env} (h : notStar e = true) : assignEach (e :: es) env = (false, assign e env) :: assignEach es env := by
  cases e <;> first | rfl | cases h
theorem pgs_cons' {e : Expr} {es : List Expr} {t : Tg} {ts : List Tg} (hn : notStar e = true) (h1 : PG X e (rdG X.K t)) (h2 : PGs X es (rdGs X.K ts)) : PGs X (e :: es) (rdGs X.K (t :: ts)) :=
  PGs.imp (pgs_cons h1 h2 (by rw [assignEach_cons hn]; rfl)) fun vs σ H Q ⟨m, xs, σv, σv', r, s, e, k⟩ => by
    cases r with
    | nil => cases e
    | cons r rt =>
      have e : (match asg t _ σv with
        | some σ' => asgs ts _ σ'
        | none => none) = some σv' := e
      cases e1 : asg t _ σv with
      | none => rw [e1] at e; cases e
      | some σ1 =>
        rw [e1] at e
        exact ⟨_, _, rfl, m, _, σv, σ1, r, s, e1, fun σ' s' l' => ⟨m, _, σ1, σv', rt, s', e, fun σ2 s2 l2 => k σ2 s2 (l'.trans l2)⟩⟩
theorem asgs_len : ∀ {ts : List Tg} {xs : List VV} {σ σ' : Sv}, asgs ts xs σ = some σ' → ts.length = xs.length
  | [], [], _, _, _ => rfl
  | [], _ :: _, _, _, h => by cases h
  | _ :: _, [], _, _, h => by cases h
  | t :: ts, x :: xs, σ, σ', h => by
    have h : (match asg t x σ with
      | some σ' => asgs ts xs σ'
      | none => none) = some σ' := h
    cases e : asg t x σ with
    | none => rw [e] at h; cases h
    | some σ1 =>
      rw [e] at h
      rw [List.length_cons, List.length_cons, asgs_len h]
theorem each_plain {env : Env} : ∀ {es : List Expr}, (∀ e ∈ es, notStar e = true) → (assignEach es env).length = es.length ∧ (assignEach es env).findIdx? (·.1) = none
  | [], _ => ⟨rfl, rfl⟩
  | e :: es, h => by
    obtain ⟨h1, h2⟩ := each_plain (env := env) (es := es) fun e he => h e (List.mem_cons_of_mem _ he)
    rw [assignEach_cons (h e List.mem_cons_self)]
    refine ⟨by rw [List.length_cons, h1, List.length_cons], ?_⟩
    rw [List.findIdx?_cons, h2]
    simp
theorem pg_seq {es : List Expr} {k : Nat} {pos : Pos} {ts : List Tg} (hc : X.calm = true) (hs : ∀ e ∈ es, notStar e = true) (h : PGs X es (rdGs X.K ts)) (hl : es.length = ts.length) : PG X (.Tuple es k pos) (rdG X.K (.tup ts)) := by
  obtain ⟨h1, h2⟩ := each_plain (env := X.env) hs
  have g1 := pg_tup (k := k) (pos := pos) hc h h1 h2
  have g2 := pg_unl (k := k) (pos := pos) hc h h1 h2
  refine ⟨fun pins s σ H v u Q I r ⟨m, x, σv, σv', rx, se, e, kk⟩ => ?_⟩
  cases x <;> try (exact absurd (show none = some σv' from e) (by simp))
  · rename_i xs
    have e : asgs ts xs σv = some σv' := e
    have hlen := asgs_len e
    cases rx with
    | tup f t => exact g1.run pins s σ H _ u Q I r ⟨_, _, rfl, f.sq, by rw [← t.length, ← hlen, hl], m, xs, σv, σv', t, se, e, kk⟩
  · rename_i xs
    have e : asgs ts xs σv = some σv' := e
    have hlen := asgs_len e
    cases rx with
    | lst f t => exact g2.run pins s σ H _ u Q I r ⟨_, _, rfl, f.sq, by rw [← t.length, ← hlen, hl], m, xs, σv, σv', t, se, e, kk⟩
end
section
variable {K : PySem.W.Frag} {m m' : Mp} {H H' : Hp} {S : Hs} {d : Ad} {o : HO}
inductive Lw (K : PySem.W.Frag) (m : Mp) (H : Hp) : Ad → List VV → List (Nat × List VV) → Prop
  | fz {a : Ad} {xs : List VV} {ys : List V} : FzL m H a ys → Rs K m H xs ys → Lw K m H a xs []
  | ref {a : Ad} {k : Nat} {xs : List VV} : m.ix[k]? = some a → Lw K m H a xs [(k, xs)]
theorem Lw.at {a : Ad} {xs : List VV} {g : List (Nat × List VV)} (l : Lw K m H a xs g) (h : SimH K m H S) (hg : gokB S g = true) : ∃ ys, H a = some (.lst ys) ∧ Rs K m H xs ys := by
  cases l with
  | fz f t => exact ⟨_, f.1, t⟩
  | ref hk => exact h.obj _ _ a (gokB_mem hg List.mem_cons_self) hk
theorem Lw.ext {a : Ad} {xs : List VV} {g : List (Nat × List VV)} (e : Ext m H m' H') (l : Lw K m H a xs g) : Lw K m' H' a xs g := by
  cases l with
  | fz f t => exact .fz (e.rdL f) (t.ext e)
  | ref hk =>
    obtain ⟨t, et, _⟩ := e.grow
    exact .ref (by rw [et, List.getElem?_append_left (List.getElem?_eq_some_iff.mp hk).1]; exact hk)
theorem Lw.aside {a : Ad} {xs : List VV} {g : List (Nat × List VV)} (hd : H d = none) (l : Lw K m H a xs g) : Lw K (m.apart d) (upd H d o) a xs g := by
  cases l with
  | fz f t => exact .fz ⟨by rw [upd_ne (ne_of_none f.1 hd)]; exact f.1, aside_out (K := K) (o := o) hd (by rw [f.1]; simp) f.2⟩ (t.aside hd)
  | ref hk => exact .ref hk
theorem Lw.put {a : Ad} {xs : List VV} {g : List (Nat × List VV)} (l : Lw K (m.apart d) H a xs g) : Lw K (m.apart d) (upd H d o) a xs g := by
  cases l with
  | fz f t => exact .fz ⟨by rw [upd_ne (out_ne f.2)]; exact f.1, f.2⟩ t.put
  | ref hk => exact .ref hk
def Dw (K : PySem.W.Frag) (m : Mp) (H : Hp) (d : Ad) (o : Obj) (ps : Prs) (kvs : List (VV × VV)) : Prop := H d = some (.frz o (dicO d ps)) ∧ d ∉ m.av ∧ Rp K m H kvs (ps.map fun p => (DK.t p.1 p.2.1, p.2.2))
theorem Dw.ext {a : Ad} {ob : Obj} {ps : Prs} {kvs : List (VV × VV)} (e : Ext m H m' H') (w : Dw K m H a ob ps kvs) : Dw K m' H' a ob ps kvs := ⟨e.frz _ _ _ w.1, by rw [e.av]; exact w.2.1, w.2.2.ext e⟩
theorem Dw.aside {a : Ad} {ob : Obj} {ps : Prs} {kvs : List (VV × VV)} (hd : H d = none) (w : Dw K m H a ob ps kvs) : Dw K (m.apart d) (upd H d o) a ob ps kvs := by
  have ne : a ≠ d := fun z => by
    have := w.1
    rw [z, hd] at this
    cases this
  refine ⟨by rw [upd_ne ne]; exact w.1, fun q => ?_, w.2.2.aside hd⟩
  rcases List.mem_cons.mp q with q | q
  · exact ne q
  · exact w.2.1 q
theorem Dw.put {a : Ad} {ob : Obj} {ps : Prs} {kvs : List (VV × VV)} (w : Dw K (m.apart d) H a ob ps kvs) : Dw K (m.apart d) (upd H d o) a ob ps kvs := by
  have ne : a ≠ d := fun z => w.2.1 (by rw [z]; exact List.mem_cons_self)
  exact ⟨by rw [upd_ne ne]; exact w.1, w.2.1, w.2.2.put⟩
theorem Rp.rvals : ∀ {kvs : List (VV × VV)} {xs : List (DK × V)}, Rp K m H kvs xs → Rs K m H (kvs.map (·.2)) (xs.map (·.2))
  | _, _, .nil => .nil
  | _, _, .int r t => .cons r (Rp.rvals t)
  | _, _, .tup _ _ r t => .cons r (Rp.rvals t)
theorem Dw.get {a : Ad} {ob : Obj} {ps : Prs} {kvs : List (VV × VV)} (w : Dw K m H a ob ps kvs) {i : Nat} {p : VV × VV} (h : kvs[i]? = some p) : ∃ q, ps[i]? = some q ∧ R K m H p.1 (.ref q.2.1) ∧ R K m H p.2 q.2.2 := by
  have h1 : (kvs.map (·.1))[i]? = some p.1 := by rw [List.getElem?_map, h]; rfl
  have h2 : (kvs.map (·.2))[i]? = some p.2 := by rw [List.getElem?_map, h]; rfl
  obtain ⟨u, hu, ru⟩ := w.2.2.rkeys.get h1
  obtain ⟨v, hv, rv⟩ := w.2.2.rvals.get h2
  rw [List.map_map, List.getElem?_map] at hu hv
  obtain ⟨q, hq, rfl⟩ := Option.map_eq_some_iff.mp hu
  rw [hq] at hv
  cases hv
  exact ⟨q, hq, ru, rv⟩
def Di (K : PySem.W.Frag) (m : Mp) (H : Hp) (d : Ad) (o : Obj) (ps : List (Int × V)) (kvs : List (VV × VV)) : Prop := H d = some (.frz o (.dK (ps.map fun p => ((Sum.inl p.1 : L2.Key), p.2)))) ∧ d ∉ m.av ∧ Rp K m H kvs (ps.map fun p => (DK.i p.1, p.2))
theorem Di.ext {a : Ad} {ob : Obj} {ps : List (Int × V)} {kvs : List (VV × VV)} (e : Ext m H m' H') (w : Di K m H a ob ps kvs) : Di K m' H' a ob ps kvs := ⟨e.frz _ _ _ w.1, by rw [e.av]; exact w.2.1, w.2.2.ext e⟩
theorem Di.aside {a : Ad} {ob : Obj} {ps : List (Int × V)} {kvs : List (VV × VV)} (hd : H d = none) (w : Di K m H a ob ps kvs) : Di K (m.apart d) (upd H d o) a ob ps kvs := by
  have ne : a ≠ d := fun z => by
    have := w.1
    rw [z, hd] at this
    cases this
  refine ⟨by rw [upd_ne ne]; exact w.1, fun q => ?_, w.2.2.aside hd⟩
  rcases List.mem_cons.mp q with q | q
  · exact ne q
  · exact w.2.1 q
theorem Di.put {a : Ad} {ob : Obj} {ps : List (Int × V)} {kvs : List (VV × VV)} (w : Di K (m.apart d) H a ob ps kvs) : Di K (m.apart d) (upd H d o) a ob ps kvs := by
  have ne : a ≠ d := fun z => w.2.1 (by rw [z]; exact List.mem_cons_self)
  exact ⟨by rw [upd_ne ne]; exact w.1, w.2.1, w.2.2.put⟩
theorem Di.key {a : Ad} {ob : Obj} {ps : List (Int × V)} {kvs : List (VV × VV)} (w : Di K m H a ob ps kvs) {i : Nat} {x : VV} (h : (kvs.map (·.1))[i]? = some x) : ∃ q, ps[i]? = some q ∧ x = .int q.1 := by
  obtain ⟨u, hu, ru⟩ := w.2.2.rkeys.get h
  rw [List.map_map, List.getElem?_map] at hu
  obtain ⟨q, hq, rfl⟩ := Option.map_eq_some_iff.mp hu
  refine ⟨q, hq, ?_⟩
  cases ru
  rfl
theorem Di.len {a : Ad} {ob : Obj} {ps : List (Int × V)} {kvs : List (VV × VV)} (w : Di K m H a ob ps kvs) : kvs.length = ps.length := by
  have := w.2.2.length
  rwa [List.length_map] at this
theorem Dw.len {a : Ad} {ob : Obj} {ps : Prs} {kvs : List (VV × VV)} (w : Dw K m H a ob ps kvs) : kvs.length = ps.length := by
  have := w.2.2.length
  rwa [List.length_map] at this
inductive Wk (K : PySem.W.Frag) (m : Mp) (H : Hp) : Src → L2.It → Prop
  | lst {a : Ad} {xs : List VV} {g : List (Nat × List VV)} : Lw K m H a xs g → Wk K m H (xs, g) (Itl K a)
  | tup {a : Ad} {xs : List VV} : R K m H (.tup xs) (.ref a) → Wk K m H (xs, []) (Itt K a)
  | rng (lo : Int) (n : Nat) : Wk K m H ((List.range n).map fun (i : Nat) => VV.int (lo + i), []) (Itr lo n)
  | rngD (lo : Int) (n : Nat) : Wk K m H ((List.range n).map fun (i : Nat) => VV.int (lo - i), []) (Itc lo (-1) n)
  | enm {a : Ad} {xs : List VV} {g : List (Nat × List VV)} : Lw K m H a xs g → Wk K m H (enumV xs, g) (Ite K a)
  | enmT {a : Ad} {xs : List VV} : R K m H (.tup xs) (.ref a) → Wk K m H (enumV xs, []) (IteT K a)
  | zip {a b : Ad} {xs ys : List VV} {g q : List (Nat × List VV)} : Lw K m H a xs g → Lw K m H b ys q → Wk K m H (zipV xs ys, g ++ q) (Itz K a b)
  | zipT {a b : Ad} {xs ys : List VV} : R K m H (.tup xs) (.ref a) → R K m H (.tup ys) (.ref b) → Wk K m H (zipV xs ys, []) (RZ.ItzT K a b)
  | dk {a : Ad} {ob : Obj} {ps : Prs} {kvs : List (VV × VV)} : Dw K m H a ob ps kvs → Wk K m H (kvs.map (·.1), []) (ItkN a ob ps)
  | dki {a : Ad} {ob : Obj} {ps : List (Int × V)} {kvs : List (VV × VV)} : Di K m H a ob ps kvs → Wk K m H (kvs.map (·.1), []) (Itk a ob (ps.map fun p => ((Sum.inl p.1 : L2.Key), p.2)))
  | di {a : Ad} {ob : Obj} {ps : Prs} {kvs : List (VV × VV)} : Dw K m H a ob ps kvs → Wk K m H (kvs.map fun p => .tup [p.1, p.2], []) (ItiN a ob ps)
  | zipM {a b : Ad} {xs ys : List VV} {q : List (Nat × List VV)} : R K m H (.tup xs) (.ref a) → Lw K m H b ys q → Wk K m H (zipV xs ys, [] ++ q) (ItzM K a b)
theorem Wk.ext {src : Src} {J : L2.It} (e : Ext m H m' H') (w : Wk K m H src J) : Wk K m' H' src J := by
  cases w with
  | lst l => exact .lst (l.ext e)
  | tup r => exact .tup (r.ext e)
  | rng lo n => exact .rng lo n
  | rngD lo n => exact .rngD lo n
  | enm l => exact .enm (l.ext e)
  | enmT r => exact .enmT (r.ext e)
  | zip l q => exact .zip (l.ext e) (q.ext e)
  | zipT r q => exact .zipT (r.ext e) (q.ext e)
  | dk w => exact .dk (w.ext e)
  | dki w => exact .dki (w.ext e)
  | di w => exact .di (w.ext e)
  | zipM r l => exact .zipM (r.ext e) (l.ext e)
theorem Wk.aside {src : Src} {J : L2.It} (hd : H d = none) (w : Wk K m H src J) : Wk K (m.apart d) (upd H d o) src J := by
  cases w with
  | lst l => exact .lst (l.aside hd)
  | tup r => exact .tup (r.aside hd)
  | rng lo n => exact .rng lo n
  | rngD lo n => exact .rngD lo n
  | enm l => exact .enm (l.aside hd)
  | enmT r => exact .enmT (r.aside hd)
  | zip l q => exact .zip (l.aside hd) (q.aside hd)
  | zipT r q => exact .zipT (r.aside hd) (q.aside hd)
  | dk w => exact .dk (w.aside hd)
  | dki w => exact .dki (w.aside hd)
  | di w => exact .di (w.aside hd)
  | zipM r l => exact .zipM (r.aside hd) (l.aside hd)
theorem Wk.put {src : Src} {J : L2.It} (w : Wk K (m.apart d) H src J) : Wk K (m.apart d) (upd H d o) src J := by
  cases w with
  | lst l => exact .lst l.put
  | tup r => exact .tup r.put
  | rng lo n => exact .rng lo n
  | rngD lo n => exact .rngD lo n
  | enm l => exact .enm l.put
  | enmT r => exact .enmT r.put
  | zip l q => exact .zip l.put q.put
  | zipT r q => exact .zipT r.put q.put
  | dk w => exact .dk w.put
  | dki w => exact .dki w.put
  | di w => exact .di w.put
  | zipM r l => exact .zipM r.put l.put
theorem gok_app {g q : List (Nat × List VV)} (h : gokB S (g ++ q) = true) : gokB S g = true ∧ gokB S q = true := by
  unfold gokB at h ⊢
  rw [List.all_append, Bool.and_eq_true] at h
  exact h
theorem tup_rd {a : Ad} {xs : List VV} (r : R K m H (.tup xs) (.ref a)) : ∃ ys, SqT K H a ys ∧ Rs K m H xs ys := by
  cases r with
  | tup f t => exact ⟨_, f.sq, t⟩
theorem new2 {T : Ad} {x y : VV} {u v : V} (h : SimH K m H S) (hT : H T = none) (rx : R K m H x u) (ry : R K m H y v) : Ext m H m (upd H T (.tup [u, v])) ∧ SimH K m (upd H T (.tup [u, v])) S ∧ R K m (upd H T (.tup [u, v])) (.tup [x, y]) (.ref T) :=
  ⟨Ext.new hT, h.new hT, R.newT h hT (.cons rx (.cons ry .nil))⟩
theorem Wk.go {src : Src} {J : L2.It} (w : Wk K m H src J) (h : SimH K m H S) (hg : gokB S src.2 = true) {i : Nat} {x : VV} (hx : src.1[i]? = some x) :
    J.go i H ∧ ∀ v H3, J.yld i H v H3 → Ext m H m H3 ∧ SimH K m H3 S ∧ R K m H3 x v := by
  cases w with
  | lst l =>
    obtain ⟨ys, ha, t⟩ := l.at h hg
    obtain ⟨u, hu, ru⟩ := t.get hx
    refine ⟨⟨ys, u, SqL.of ha, hu⟩, fun v H3 ⟨e, y⟩ => ?_⟩
    subst e
    have := y ys (SqL.of ha)
    rw [hu] at this
    cases this
    exact ⟨Ext.refl, h, ru⟩
  | tup r =>
    obtain ⟨ys, ha, t⟩ := tup_rd r
    obtain ⟨u, hu, ru⟩ := t.get hx
    refine ⟨⟨ys, u, ha, hu⟩, fun v H3 ⟨e, y⟩ => ?_⟩
    subst e
    have := y ys ha
    rw [hu] at this
    cases this
    exact ⟨Ext.refl, h, ru⟩
  | rng lo n =>
    simp only [List.getElem?_map] at hx
    obtain ⟨j, hj, rfl⟩ := Option.map_eq_some_iff.mp hx
    obtain ⟨hlt, e⟩ := List.getElem?_eq_some_iff.mp hj
    rw [List.getElem_range] at e
    subst e
    rw [List.length_range] at hlt
    refine ⟨hlt, fun v H3 ⟨e, y⟩ => ?_⟩
    subst e y
    exact ⟨Ext.refl, h, .int _⟩
  | rngD lo n =>
    simp only [List.getElem?_map] at hx
    obtain ⟨j, hj, rfl⟩ := Option.map_eq_some_iff.mp hx
    obtain ⟨hlt, e⟩ := List.getElem?_eq_some_iff.mp hj
    rw [List.getElem_range] at e
    subst e
    rw [List.length_range] at hlt
    refine ⟨hlt, fun v H3 ⟨e, y⟩ => ?_⟩
    subst e y
    refine ⟨Ext.refl, h, ?_⟩
    have e : ∀ k : Nat, lo + (k : Int) * (-1) = lo - k := fun k => by omega
    rw [e]
    exact .int _
  | enm l =>
    obtain ⟨ys, ha, t⟩ := l.at h hg
    simp only [enumV, List.getElem?_mapIdx] at hx
    obtain ⟨z, hz, rfl⟩ := Option.map_eq_some_iff.mp hx
    obtain ⟨u, hu, ru⟩ := t.get hz
    refine ⟨⟨ys, u, SqL.of ha, hu⟩, fun v H3 ⟨T, y, e1, e2, e3, e4⟩ => ?_⟩
    subst e1 e3
    have := e4 ys (SqL.of ha)
    rw [hu] at this
    cases this
    exact new2 h e2 (.int _) ru
  | enmT r =>
    obtain ⟨ys, ha, t⟩ := tup_rd r
    simp only [enumV, List.getElem?_mapIdx] at hx
    obtain ⟨z, hz, rfl⟩ := Option.map_eq_some_iff.mp hx
    obtain ⟨u, hu, ru⟩ := t.get hz
    refine ⟨⟨ys, u, ha, hu⟩, fun v H3 ⟨T, y, e1, e2, e3, e4⟩ => ?_⟩
    subst e1 e3
    have := e4 ys ha
    rw [hu] at this
    cases this
    exact new2 h e2 (.int _) ru
  | zip l q =>
    obtain ⟨g1, g2⟩ := gok_app hg
    obtain ⟨ys, ha, t⟩ := l.at h g1
    obtain ⟨zs, hb, t2⟩ := q.at h g2
    simp only [zipV, List.getElem?_map] at hx
    obtain ⟨p, hp, rfl⟩ := Option.map_eq_some_iff.mp hx
    obtain ⟨h1, h2⟩ := List.getElem?_zip_eq_some.mp hp
    obtain ⟨u, hu, ru⟩ := t.get h1
    obtain ⟨w, hw, rw'⟩ := t2.get h2
    refine ⟨⟨ys, zs, u, w, SqL.of ha, SqL.of hb, hu, hw⟩, fun v H3 ⟨T, x, y, e1, e2, e3, e4, e5⟩ => ?_⟩
    subst e1 e3
    have q1 := e4 ys (SqL.of ha)
    have q2 := e5 zs (SqL.of hb)
    rw [hu] at q1
    rw [hw] at q2
    cases q1
    cases q2
    exact new2 h e2 ru rw'
  | zipT r q =>
    obtain ⟨ys, ha, t⟩ := tup_rd r
    obtain ⟨zs, hb, t2⟩ := tup_rd q
    simp only [zipV, List.getElem?_map] at hx
    obtain ⟨p, hp, rfl⟩ := Option.map_eq_some_iff.mp hx
    obtain ⟨h1, h2⟩ := List.getElem?_zip_eq_some.mp hp
    obtain ⟨u, hu, ru⟩ := t.get h1
    obtain ⟨w, hw, rw'⟩ := t2.get h2
    refine ⟨⟨ys, zs, u, w, ha, hb, hu, hw⟩, fun v H3 ⟨T, x, y, e1, e2, e3, e4, e5⟩ => ?_⟩
    subst e1 e3
    have q1 := e4 ys ha
    have q2 := e5 zs hb
    rw [hu] at q1
    rw [hw] at q2
    cases q1
    cases q2
    exact new2 h e2 ru rw'
  | dk w =>
    simp only [List.getElem?_map] at hx
    obtain ⟨p, hp, rfl⟩ := Option.map_eq_some_iff.mp hx
    obtain ⟨q, hq, r1, r2⟩ := w.get hp
    have hlt := (List.getElem?_eq_some_iff.mp hq).1
    refine ⟨⟨w.1, hlt⟩, fun v H3 ⟨e, x, y, z⟩ => ?_⟩
    subst e z
    rw [hq] at y
    cases y
    exact ⟨Ext.refl, h, r1⟩
  | dki w =>
    obtain ⟨q, hq, rfl⟩ := w.key hx
    have hlt := (List.getElem?_eq_some_iff.mp hq).1
    refine ⟨⟨w.1, by rw [List.length_map]; exact hlt⟩, fun v H3 ⟨e, k, y, z, e2⟩ => ?_⟩
    subst e
    rw [List.getElem?_map, hq] at z
    cases z
    subst e2
    exact ⟨Ext.refl, h, .int _⟩
  | di w =>
    simp only [List.getElem?_map] at hx
    obtain ⟨p, hp, rfl⟩ := Option.map_eq_some_iff.mp hx
    obtain ⟨q, hq, r1, r2⟩ := w.get hp
    have hlt := (List.getElem?_eq_some_iff.mp hq).1
    refine ⟨⟨w.1, hlt⟩, fun v H3 ⟨T, x, y, z, e2, e3⟩ => ?_⟩
    subst z e3
    rw [hq] at y
    cases y
    exact new2 h e2 r1 r2
  | zipM r l =>
    obtain ⟨ys, ha, t⟩ := tup_rd r
    obtain ⟨zs, hb, t2⟩ := l.at h (gok_app hg).2
    simp only [zipV, List.getElem?_map] at hx
    obtain ⟨p, hp, rfl⟩ := Option.map_eq_some_iff.mp hx
    obtain ⟨h1, h2⟩ := List.getElem?_zip_eq_some.mp hp
    obtain ⟨u, hu, ru⟩ := t.get h1
    obtain ⟨w, hw, rw'⟩ := t2.get h2
    refine ⟨⟨ys, zs, u, w, ha, SqL.of hb, hu, hw⟩, fun v H3 ⟨T, x, y, e1, e2, e3, e4, e5⟩ => ?_⟩
    subst e1 e3
    have q1 := e4 ys ha
    have q2 := e5 zs (SqL.of hb)
    rw [hu] at q1
    rw [hw] at q2
    cases q1
    cases q2
    exact new2 h e2 ru rw'
theorem Wk.stop {src : Src} {J : L2.It} (w : Wk K m H src J) (h : SimH K m H S) (hg : gokB S src.2 = true) {i : Nat} (hi : src.1.length ≤ i) : J.stop i H := by
  cases w with
  | lst l =>
    obtain ⟨ys, ha, t⟩ := l.at h hg
    exact ⟨ys, SqL.of ha, by rw [← t.length]; exact hi⟩
  | tup r =>
    obtain ⟨ys, ha, t⟩ := tup_rd r
    exact ⟨ys, ha, by rw [← t.length]; exact hi⟩
  | rng lo n =>
    show n ≤ i
    simpa using hi
  | rngD lo n =>
    show n ≤ i
    simpa using hi
  | enm l =>
    obtain ⟨ys, ha, t⟩ := l.at h hg
    exact ⟨ys, SqL.of ha, by rw [← t.length]; simpa [enumV] using hi⟩
  | enmT r =>
    obtain ⟨ys, ha, t⟩ := tup_rd r
    exact ⟨ys, ha, by rw [← t.length]; simpa [enumV] using hi⟩
  | zip l q =>
    obtain ⟨g1, g2⟩ := gok_app hg
    obtain ⟨ys, ha, t⟩ := l.at h g1
    obtain ⟨zs, hb, t2⟩ := q.at h g2
    refine ⟨ys, zs, SqL.of ha, SqL.of hb, ?_⟩
    have l1 := t.length
    have l2 := t2.length
    simp only [zipV, List.length_map, List.length_zip] at hi
    omega
  | zipT r q =>
    obtain ⟨ys, ha, t⟩ := tup_rd r
    obtain ⟨zs, hb, t2⟩ := tup_rd q
    refine ⟨ys, zs, ha, hb, ?_⟩
    have l1 := t.length
    have l2 := t2.length
    simp only [zipV, List.length_map, List.length_zip] at hi
    omega
  | dk w =>
    refine ⟨w.1, ?_⟩
    rw [← w.len]
    simpa using hi
  | dki w =>
    refine ⟨w.1, ?_⟩
    rw [List.length_map, ← w.len]
    simpa using hi
  | di w =>
    refine ⟨w.1, ?_⟩
    rw [← w.len]
    simpa using hi
  | zipM r l =>
    obtain ⟨ys, ha, t⟩ := tup_rd r
    obtain ⟨zs, hb, t2⟩ := l.at h (gok_app hg).2
    refine ⟨ys, zs, ha, SqL.of hb, ?_⟩
    have l1 := t.length
    have l2 := t2.length
    simp only [zipV, List.length_map, List.length_zip] at hi
    omega
end
end Tw
set_option Elab.async false
set_option linter.all false
set_option autoImplicit false
set_option maxRecDepth 100000
namespace Tw
open PySem PySem.Spec PyProof.Rows L2
theorem noX_eq {α : Type} {o : Out α} {x : α} {s : Hs} (h : noX o = .ok x s) : o = .ok x s := by
  cases o <;> first | exact h | cases h
theorem noX_noX {α : Type} (o : Out α) (v : VV) (s : Hs) : noX o ≠ .exc v s := by
  intro h
  cases o <;> cases h
theorem bind_noX {α β : Type} {o : Out α} {g : α → Hs → Out β} (ho : ∀ v s, o ≠ .exc v s) (hg : ∀ x s v s', g x s ≠ .exc v s') (v : VV) (s : Hs) : o.bind g ≠ .exc v s := by
  intro h
  cases o with
  | ok x s1 => exact hg x s1 v s h
  | exc v1 s1 => exact ho v1 s1 rfl
  | bad => cases h
section
variable {X : Cx} {w : Wish} {cl : Cl} {tg : Expr}
def rdI (K : PySem.W.Frag) (w : Wish) (f : Sv → Hs → Out Src) : TI := fun σ H P => ∃ m σv S, Sit K m σv S σ H ∧ Res K w m H σ (f σv S) fun src S' => ∀ m' H' J, Ext m H m' H' → SimH K m' H' S' → Wk K m' H' src J → P J H'
def SI (X : Cx) (w : Wish) (cl : Cl) (tg e : Expr) (it : It) : Prop := PI X tg e (rdI X.K w (evIt cl it))
theorem PI.imp {X : Cx} {e : Expr} {t t' : TI} (h : PI X tg e t) (i : ∀ σ H P, t' σ H P → t σ H P) : PI X tg e t' := ⟨fun pins s σ H P I q => h.run pins s σ H P I (i σ H P q)⟩
def iSeq (K : PySem.W.Frag) (tl : TE) : TI := fun σ H P => tl σ H fun x H1 => ∃ a, x = .ref a ∧ (((∃ xs, SqL K H1 a xs) ∧ P (Itl K a) H1) ∨ ((∃ xs, SqT K H1 a xs) ∧ P (Itt K a) H1))
theorem iter_in {pins : List (PySem.Addr × Obj)} {σ : L2.St} {H1 : Hp} {s1 : Shared} {P : L2.It → Hp → Prop} {J : L2.It} {tn : Nat → Heap → Prop} {o : Obj} (I1 : Inv X pins σ H1 s1) (T : Turn X.prog X.w X.K tg J [s1.heap.objs.size] s1.heap.objs.size tn) (t0 : tn 0 (s1.heap.push o)) (q : P J H1) :
    PIE X pins σ tg P (.ref s1.heap.objs.size) { s1 with heap := s1.heap.push o } := by
  refine ⟨s1.heap.objs.size, [s1.heap.objs.size], tn, J, H1, rfl, I1.kept (t' := s1.toks) fun b u e => Heap.get?_push_of_some _ e, T, t0, fun b hb => ?_, q⟩
  rw [List.mem_singleton.mp hb]
  exact I1.fpOk (Nat.le_refl _) (I1.hok.fresh (Nat.le_refl _))
theorem pi_seq {l : Expr} {tl : TE} (hl : PE X l tl) : PI X tg l (iSeq X.K tl) := by
  refine ⟨fun pins s σ H P I h => ?_⟩
  refine thn (hl.run pins s σ H _ I h) ?_
  rintro v s1 ⟨x, H1, I1, r1, a, rfl, q⟩
  cases r1
  rcases q with ⟨⟨xs, hq⟩, q⟩ | ⟨⟨xs, hq⟩, q⟩
  · obtain ⟨its, rv, p, hz⟩ := I1.list hq
    exact wpAny_pyIter_list p.isList (iter_in I1 (turn_list a _) ⟨_, Heap.get?_push_size _ rfl, rfl, rfl⟩ q)
  · obtain ⟨its, rv, p, hz⟩ := I1.tuple hq
    exact wpAny_pyIter_tuple (items := its.toArray) p (iter_in I1 (turn_tuple a _) ⟨_, Heap.get?_push_size _ rfl, rfl, rfl⟩ q)
theorem src_lw {K : PySem.W.Frag} {m : Mp} {H : Hp} {S : Hs} {x : VV} {v : V} {src : Src} (h : SimH K m H S) (r : R K m H x v) (e : srcOf S x = some src) : ∃ a, v = .ref a ∧
    ((isTup x = false ∧ (∃ ys, SqL K H a ys) ∧ Lw K m H a src.1 src.2) ∨ (isTup x = true ∧ (∃ ys, SqT K H a ys) ∧ src.2 = [] ∧ R K m H (.tup src.1) (.ref a))) := by
  unfold srcOf at e
  obtain ⟨xs, e1, rfl⟩ := Option.map_eq_some_iff.mp e
  cases r <;> simp [seqOf] at e1
  · subst e1
    rename_i a ys f t
    exact ⟨_, rfl, .inr ⟨rfl, ⟨_, FzT.sq (by assumption)⟩, rfl, .tup (by assumption) (by assumption)⟩⟩
  · subst e1
    exact ⟨_, rfl, .inl ⟨rfl, ⟨_, FzL.sq (by assumption)⟩, .fz (by assumption) (by assumption)⟩⟩
  · rename_i k a hk
    obtain ⟨ys, h1, h2⟩ := h.list hk e1
    exact ⟨a, rfl, .inl ⟨rfl, ⟨ys, SqL.of h1⟩, .ref hk⟩⟩
theorem src_wk {K : PySem.W.Frag} {m : Mp} {H : Hp} {S : Hs} {x : VV} {v : V} {src : Src} (h : SimH K m H S) (r : R K m H x v) (e : srcOf S x = some src) : ∃ a, v = .ref a ∧ (((∃ xs, SqL K H a xs) ∧ Wk K m H src (Itl K a)) ∨ ((∃ xs, SqT K H a xs) ∧ Wk K m H src (Itt K a))) := by
  obtain ⟨a, e1, q⟩ := src_lw h r e
  refine ⟨a, e1, ?_⟩
  rcases q with ⟨_, q1, l⟩ | ⟨_, q1, z, l⟩
  · exact .inl ⟨q1, .lst l⟩
  · obtain ⟨xs, g⟩ := src
    cases z
    exact .inr ⟨q1, .tup l⟩
theorem si_pl {e : Expr} {ir : Ex} (h : SE X w cl e ir) : SI X w cl tg e (.pl ir) := by
  refine PI.imp (pi_seq h) fun σ H P ⟨m, σv, S, s, q⟩ => ?_
  have q : Res X.K w m H σ ((ev cl ir σv S).bind fun x s => lift (srcOf s x) s) _ := q
  refine rd_then s (q.bind.imp fun x S1 e1 m1 H1 v x1 s1 r1 => ?_)
  obtain ⟨src, S', e2, k⟩ := e1.ok (lift_noX _ _)
  cases e3 : srcOf S1 x with
  | none => rw [e3] at e2; cases e2
  | some sr =>
    rw [e3] at e2
    cases e2
    obtain ⟨a, ea, q1⟩ := src_wk s1.h r1 e3
    refine ⟨a, ea, ?_⟩
    rcases q1 with ⟨h1, h2⟩ | ⟨h1, h2⟩
    · exact .inl ⟨h1, k m1 H1 _ x1 s1.h h2⟩
    · exact .inr ⟨h1, k m1 H1 _ x1 s1.h h2⟩
theorem rng_fn (n : Nat) : ((List.range n).map fun (i : Nat) => VV.int i) = (List.range n).map fun (i : Nat) => VV.int ((0 : Int) + i) := by
  congr 1
  funext i
  rw [Int.zero_add]
theorem gRange_noX (vs : List VV) (s : Hs) (v : VV) (s' : Hs) : gRange vs s ≠ .exc v s' := by
  intro h
  unfold gRange at h
  split at h
  · split at h <;> cases h
  · split at h <;> cases h
  · split at h <;> cases h
  · cases h
theorem Res.imp_eq {α : Type} {K : PySem.W.Frag} {m : Mp} {H : Hp} {σ : L2.St} {o : Out α} {k k' : α → Hs → Prop} (h : Res K w m H σ o k) (i : ∀ x S1, o = .ok x S1 → k x S1 → k' x S1) : Res K w m H σ o k' := by
  cases o with
  | ok x S1 => exact i x S1 rfl h
  | exc v S1 => exact h
  | bad => exact h
theorem evs_len : ∀ {es : List Ex} {σ : Sv} {s s' : Hs} {xs : List VV}, evs cl es σ s = .ok xs s' → xs.length = es.length
  | [], _, _, _, _, e => by cases e; rfl
  | i :: es, σ, s, s', xs, e => by
    obtain ⟨v, s1, e1, e⟩ := Out.bind_eq_ok (show (ev cl i σ s).bind _ = _ from e)
    obtain ⟨vs, s2, e2, e⟩ := Out.bind_eq_ok e
    cases e
    rw [List.length_cons, evs_len e2, List.length_cons]
theorem si_range1 {a : Expr} {ia : Ex} {p pos : Pos} (hg : Gl X "range") (hm : X.mg "range" = none) (hn : notStar a = true) (ha : SA X w cl [a] [ia]) : SI X w cl tg (.Call (.Name "range" p) [a] [] pos) (.range [ia]) := by
  refine PI.imp (pi_range1 hg hm ha (by rw [star_cons hn]; rfl)) fun σ H P ⟨m, σv, S, s, q⟩ => ?_
  have q : Res X.K w m H σ ((evs cl [ia] σv S).bind fun vs s => gRange vs s) _ := q
  refine rd_thenA s (Res.imp_eq q.bind fun x S1 ee e1 m1 H1 v x1 s1 r1 => ?_)
  obtain ⟨src, S', e2, k⟩ := e1.ok (gRange_noX _ _)
  have l1 := evs_len ee
  unfold gRange at e2
  split at e2
  · rename_i n
    split at e2
    · rename_i hb
      cases e2
      cases r1 with
      | cons r t =>
        cases t
        cases r
        refine ⟨n, rfl, hb.1, hb.2, k m1 H1 _ x1 s1.h ?_⟩
        rw [rng_fn]
        exact .rng 0 n.toNat
    · cases e2
  · cases l1
  · cases l1
  · cases e2
theorem si_range2 {a b : Expr} {ia ib : Ex} {p pos : Pos} (hg : Gl X "range") (hm : X.mg "range" = none) (hn : notStar a = true) (hn2 : notStar b = true) (ha : SA X w cl [a, b] [ia, ib]) : SI X w cl tg (.Call (.Name "range" p) [a, b] [] pos) (.range [ia, ib]) := by
  refine PI.imp (pi_range2 hg hm ha (by rw [star_cons hn, star_cons hn2]; rfl) (by rw [star_cons hn2]; rfl)) fun σ H P ⟨m, σv, S, s, q⟩ => ?_
  have q : Res X.K w m H σ ((evs cl [ia, ib] σv S).bind fun vs s => gRange vs s) _ := q
  refine rd_thenA s (Res.imp_eq q.bind fun x S1 ee e1 m1 H1 v x1 s1 r1 => ?_)
  obtain ⟨src, S', e2, k⟩ := e1.ok (gRange_noX _ _)
  have l1 := evs_len ee
  unfold gRange at e2
  split at e2
  · cases l1
  · rename_i n n2
    split at e2
    · rename_i hb
      cases e2
      cases r1 with
      | cons r t =>
        cases t with
        | cons r' t =>
          cases t
          cases r
          cases r'
          exact ⟨n, n2, rfl, hb, k m1 H1 _ x1 s1.h (.rng n (n2 - n).toNat)⟩
    · cases e2
  · cases l1
  · cases e2
theorem lck_rd {K : PySem.W.Frag} {m : Mp} {H : Hp} {S : Hs} {x : VV} {v : V} {kvs : List (VV × VV)} (h : SimH K m H S) (r : R K m H x v) (e : lckOf S x = some kvs) : ∃ a od ps, v = .ref a ∧ Dw K m H a od ps kvs := by
  unfold lckOf at e
  split at e
  · rename_i k
    split at e
    · rename_i es
      cases e
      cases r with
      | ref hk =>
        rename_i a
        obtain ⟨od, xs, o, h1, h2, h3⟩ := h.obj k _ a es hk
        rcases h2 with ⟨z, _⟩ | ⟨_, ps, rfl, rfl⟩
        · cases z
        · exact ⟨a, od, ps, rfl, h1, fun q => (h.apart a q).1 (List.mem_of_getElem? hk), h3⟩
    · cases e
  · cases e
theorem lckI_rd {K : PySem.W.Frag} {m : Mp} {H : Hp} {S : Hs} {x : VV} {v : V} {kvs : List (VV × VV)} (h : SimH K m H S) (r : R K m H x v) (e : lckI S x = some kvs) : ∃ a od ps, v = .ref a ∧ Di K m H a od ps kvs := by
  unfold lckI at e
  split at e
  · rename_i k
    split at e
    · rename_i es
      cases e
      cases r with
      | ref hk =>
        rename_i a
        obtain ⟨od, xs, o, h1, h2, h3⟩ := h.obj k _ a es hk
        rcases h2 with ⟨_, ps, rfl, rfl⟩ | ⟨z, _⟩
        · exact ⟨a, od, ps, rfl, h1, fun q => (h.apart a q).1 (List.mem_of_getElem? hk), h3⟩
        · cases z
    · cases e
  · cases e
theorem si_dkeyi {e : Expr} {ir : Ex} (h : SE X w cl e ir) : SI X w cl tg e (.dkeyi ir) := by
  refine PI.imp (pi_keys h) fun σ H P ⟨m, σv, S, s, q⟩ => ?_
  have q : Res X.K w m H σ ((ev cl ir σv S).bind fun x s => lift ((lckI s x).map fun kvs => (kvs.map (·.1), [])) s) _ := q
  refine rd_then s (q.bind.imp fun x S1 e1 m1 H1 v x1 s1 r1 => ?_)
  obtain ⟨src, S', e2, k⟩ := e1.ok (lift_noX _ _)
  obtain ⟨e3, rfl⟩ := lift_eq_ok e2
  obtain ⟨kvs, e4, rfl⟩ := Option.map_eq_some_iff.mp e3
  obtain ⟨a, od, ps, rfl, dw⟩ := lckI_rd s1.h r1 e4
  exact ⟨a, od, rfl, .inl ⟨_, dw.1, k m1 H1 _ x1 s1.h (.dki dw)⟩⟩
theorem si_dkeys {e : Expr} {ir : Ex} (h : SE X w cl e ir) : SI X w cl tg e (.dkeys ir) := by
  refine PI.imp (pi_keysN h) fun σ H P ⟨m, σv, S, s, q⟩ => ?_
  have q : Res X.K w m H σ ((ev cl ir σv S).bind fun x s => lift ((lckOf s x).map fun kvs => (kvs.map (·.1), [])) s) _ := q
  refine rd_then s (q.bind.imp fun x S1 e1 m1 H1 v x1 s1 r1 => ?_)
  obtain ⟨src, S', e2, k⟩ := e1.ok (lift_noX _ _)
  obtain ⟨e3, rfl⟩ := lift_eq_ok e2
  obtain ⟨kvs, e4, rfl⟩ := Option.map_eq_some_iff.mp e3
  obtain ⟨a, od, ps, rfl, dw⟩ := lck_rd s1.h r1 e4
  exact ⟨a, od, ps, rfl, dw.1, k m1 H1 _ x1 s1.h (.dk dw)⟩
theorem si_ditems {e : Expr} {ir : Ex} {apos pos tpos : Pos} {elts : List Expr} {kk : Nat} (hb : okBase e = true) (hl : (apos.endLine == pos.line) = true) (h : SE X w cl e ir) : SI X w cl (.Tuple elts kk tpos) (.Call (.Attribute e "items" apos) [] [] pos) (.ditems ir) := by
  refine PI.imp (pi_itemsN h (base_ok hb) hl) fun σ H P ⟨m, σv, S, s, q⟩ => ?_
  have q : Res X.K w m H σ ((ev cl ir σv S).bind fun x s => lift ((lckOf s x).map fun kvs => (kvs.map fun p => VV.tup [p.1, p.2], [])) s) _ := q
  refine rd_then s (q.bind.imp fun x S1 e1 m1 H1 v x1 s1 r1 => ?_)
  obtain ⟨src, S', e2, k⟩ := e1.ok (lift_noX _ _)
  obtain ⟨e3, rfl⟩ := lift_eq_ok e2
  obtain ⟨kvs, e4, rfl⟩ := Option.map_eq_some_iff.mp e3
  obtain ⟨a, od, ps, rfl, dw⟩ := lck_rd s1.h r1 e4
  exact ⟨a, od, ps, rfl, dw.1, k m1 H1 _ x1 s1.h (.di dw)⟩
theorem si_enum {e : Expr} {ir : Ex} {p pos tpos : Pos} {elts : List Expr} {kk : Nat} (hg : Gl X "enumerate") (hm : X.mg "enumerate" = none) (hn : notStar e = true) (h : SE X w cl e ir) : SI X w cl (.Tuple elts kk tpos) (.Call (.Name "enumerate" p) [e] [] pos) (.enum ir) := by
  refine PI.imp (pi_enumA hg hm (sa_cons hn h sa_nil) (by rw [star_cons hn]; rfl)) fun σ H P ⟨m, σv, S, s, q⟩ => ?_
  have q : Res X.K w m H σ ((ev cl ir σv S).bind fun x s => gEnum x s) _ := q
  refine rd_thenA s ?_
  show Res X.K w m H σ ((ev cl ir σv S).bind fun x s => (Out.ok [x] s)) _
  refine Res.of_bind (q.bind.imp fun x S1 e1 m1 H1 v x1 s1 r1 => ?_)
  cases r1 with
  | cons r t =>
    cases t
    obtain ⟨src, S', e2, k⟩ := e1.ok (lift_noX _ _)
    unfold gEnum at e2
    cases e3 : srcOf S1 x with
    | none => rw [e3] at e2; cases e2
    | some sr =>
      rw [e3] at e2
      cases e2
      obtain ⟨a, rfl, q1⟩ := src_lw s1.h r e3
      rcases q1 with ⟨_, ⟨ys, h1⟩, l⟩ | ⟨_, ⟨ys, h1⟩, z, l⟩
      · exact ⟨a, ys, rfl, .inl ⟨h1, k m1 H1 _ x1 s1.h (.enm l)⟩⟩
      · refine ⟨a, ys, rfl, .inr ⟨h1, k m1 H1 _ x1 s1.h ?_⟩⟩
        obtain ⟨xs, g⟩ := sr
        cases z
        exact .enmT l
theorem si_range3 {a b c : Expr} {ia ib ic : Ex} {p pos : Pos} (hg : Gl X "range") (hm : X.mg "range" = none) (hs : ∀ e ∈ [a, b, c], notStar e = true) (ha : SA X w cl [a, b, c] [ia, ib, ic]) : SI X w cl tg (.Call (.Name "range" p) [a, b, c] [] pos) (.range [ia, ib, ic]) := by
  have hp : (backTo pos (starEach [b, c] X.env)).any (·.1) = false := star_plain (fun e he => hs e (List.mem_cons_of_mem _ he))
  refine PI.imp (pi_range3 hg hm ha (star_cons (hs a List.mem_cons_self)) hp) fun σ H P ⟨m, σv, S, s, q⟩ => ?_
  have q : Res X.K w m H σ ((evs cl [ia, ib, ic] σv S).bind fun vs s => gRange vs s) _ := q
  refine rd_thenA s (Res.imp_eq q.bind fun x S1 ee e1 m1 H1 v x1 s1 r1 => ?_)
  obtain ⟨src, S', e2, k⟩ := e1.ok (gRange_noX _ _)
  have l1 := evs_len ee
  unfold gRange at e2
  split at e2
  · cases l1
  · cases l1
  · rename_i n n2 n3
    split at e2
    · rename_i hb
      cases e2
      cases r1 with
      | cons r t =>
        cases t with
        | cons r' t =>
          cases t with
          | cons r'' t =>
            cases t
            cases r
            cases r'
            cases r''
            obtain ⟨rfl, b1, b2, b3, b4⟩ := hb
            exact ⟨n, n2, -1, (n - n2).toNat, rfl, RgC.neg b1 b2 b3 b4, k m1 H1 _ x1 s1.h (.rngD n (n - n2).toNat)⟩
    · cases e2
  · cases e2
theorem si_zip {e e2 : Expr} {ir ir2 : Ex} {p pos tpos : Pos} {elts : List Expr} {kk : Nat} (hg : Gl X "zip") (hm : X.mg "zip" = none) (hn : notStar e = true) (hn2 : notStar e2 = true) (h : SE X w cl e ir) (h2 : SE X w cl e2 ir2) :
    SI X w cl (.Tuple elts kk tpos) (.Call (.Name "zip" p) [e, e2] [] pos) (.zip ir ir2) := by
  refine PI.imp (pi_zip3 hg hm (sa_cons hn h (sa_cons hn2 h2 sa_nil)) (by rw [star_cons hn]) (by rw [star_cons hn2]; rfl)) fun σ H P ⟨m, σv, S, s, q⟩ => ?_
  have q : Res X.K w m H σ ((ev cl ir σv S).bind fun x s => (ev cl ir2 σv s).bind fun y s => gZip x y s) _ := q
  refine rd_thenA s ?_
  show Res X.K w m H σ ((ev cl ir σv S).bind fun x s => ((ev cl ir2 σv s).bind fun y s => (Out.ok [] s).bind fun vs s => .ok (y :: vs) s).bind fun vs s => .ok (x :: vs) s) _
  refine Res.of_bind (q.bind.imp fun x S1 e1 => ?_)
  rw [Out.bind_assoc]
  refine Res.of_bind (e1.bind.imp fun y S2 e1 m1 H1 v x1 s1 r1 => ?_)
  cases r1 with
  | cons r t =>
    cases t with
    | cons r' t =>
      cases t
      obtain ⟨src, S', e2, k⟩ := e1.ok (fun v s' h => by
        unfold gZip at h
        split at h
        · split at h <;> cases h
        · cases h)
      unfold gZip at e2
      split at e2
      · rename_i ht
        split at e2
        · rename_i sr sq ea eb
          cases e2
          obtain ⟨a, rfl, q1⟩ := src_lw s1.h r ea
          obtain ⟨b, rfl, q2⟩ := src_lw s1.h r' eb
          rcases q1 with ⟨z, ⟨ys, h1⟩, l⟩ | ⟨z, ⟨ys, h1⟩, g1, l⟩ <;> rcases q2 with ⟨z2, ⟨zs, h2⟩, l2⟩ | ⟨z2, ⟨zs, h2⟩, g2, l2⟩
          · exact ⟨a, b, ys, zs, rfl, .inl ⟨h1, h2, k m1 H1 _ x1 s1.h (.zip l l2)⟩⟩
          · rw [z, z2] at ht; cases ht
          · refine ⟨a, b, ys, zs, rfl, .inr (.inr ⟨h1, h2, k m1 H1 _ x1 s1.h ?_⟩)⟩
            rw [g1]
            exact .zipM l l2
          · refine ⟨a, b, ys, zs, rfl, .inr (.inl ⟨h1, h2, k m1 H1 _ x1 s1.h ?_⟩)⟩
            rw [g1, g2]
            exact .zipT l l2
        · cases e2
      · cases e2
theorem si_zipN {e e2 : Expr} {ir ir2 : Ex} {p pos tpos : Pos} {nm : Str} (hg : Gl X "zip") (hm : X.mg "zip" = none) (hn : notStar e = true) (hn2 : notStar e2 = true) (h : SE X w cl e ir) (h2 : SE X w cl e2 ir2) :
    SI X w cl (.Name nm tpos) (.Call (.Name "zip" p) [e, e2] [] pos) (.zip ir ir2) := by
  refine PI.imp (pi_zip3N hg hm (sa_cons hn h (sa_cons hn2 h2 sa_nil)) (by rw [star_cons hn]) (by rw [star_cons hn2]; rfl)) fun σ H P ⟨m, σv, S, s, q⟩ => ?_
  have q : Res X.K w m H σ ((ev cl ir σv S).bind fun x s => (ev cl ir2 σv s).bind fun y s => gZip x y s) _ := q
  refine rd_thenA s ?_
  show Res X.K w m H σ ((ev cl ir σv S).bind fun x s => ((ev cl ir2 σv s).bind fun y s => (Out.ok [] s).bind fun vs s => .ok (y :: vs) s).bind fun vs s => .ok (x :: vs) s) _
  refine Res.of_bind (q.bind.imp fun x S1 e1 => ?_)
  rw [Out.bind_assoc]
  refine Res.of_bind (e1.bind.imp fun y S2 e1 m1 H1 v x1 s1 r1 => ?_)
  cases r1 with
  | cons r t =>
    cases t with
    | cons r' t =>
      cases t
      obtain ⟨src, S', e2, k⟩ := e1.ok (fun v s' h => by
        unfold gZip at h
        split at h
        · split at h <;> cases h
        · cases h)
      unfold gZip at e2
      split at e2
      · rename_i ht
        split at e2
        · rename_i sr sq ea eb
          cases e2
          obtain ⟨a, rfl, q1⟩ := src_lw s1.h r ea
          obtain ⟨b, rfl, q2⟩ := src_lw s1.h r' eb
          rcases q1 with ⟨z, ⟨ys, h1⟩, l⟩ | ⟨z, ⟨ys, h1⟩, g1, l⟩ <;> rcases q2 with ⟨z2, ⟨zs, h2⟩, l2⟩ | ⟨z2, ⟨zs, h2⟩, g2, l2⟩
          · exact ⟨a, b, ys, zs, rfl, .inl ⟨h1, h2, k m1 H1 _ x1 s1.h (.zip l l2)⟩⟩
          · rw [z, z2] at ht; cases ht
          · refine ⟨a, b, ys, zs, rfl, .inr (.inr ⟨h1, h2, k m1 H1 _ x1 s1.h ?_⟩)⟩
            rw [g1]
            exact .zipM l l2
          · refine ⟨a, b, ys, zs, rfl, .inr (.inl ⟨h1, h2, k m1 H1 _ x1 s1.h ?_⟩)⟩
            rw [g1, g2]
            exact .zipT l l2
        · cases e2
      · cases e2
end
end Tw
set_option Elab.async false
set_option linter.all false
set_option autoImplicit false
set_option maxRecDepth 100000
namespace Tw
open PySem PySem.Spec PyProof.Rows L2
section
variable {K : PySem.W.Frag} {m m' : Mp} {H H' : Hp} {S : Hs} {d : Ad} {o : HO}
theorem SimE.aside {σv : Sv} {σ : L2.St} (hd : H d = none) (h : SimE K m H σv σ) : SimE K (m.apart d) (upd H d o) σv σ :=
  ⟨h.len, fun i x q => let ⟨v, h1, h2⟩ := h.get i x q; ⟨v, h1, h2.aside hd⟩⟩
theorem SimE.put {σv : Sv} {σ : L2.St} (h : SimE K (m.apart d) H σv σ) : SimE K (m.apart d) (upd H d o) σv σ :=
  ⟨h.len, fun i x q => let ⟨v, h1, h2⟩ := h.get i x q; ⟨v, h1, h2.put⟩⟩
mutual
/-- what is kept apart becomes an object of ours -/
theorem R.adopt : ∀ {x : VV} {v : V}, R K (m.apart d) H x v → R K (m.push d) H x v
  | _, _, .non => .non
  | _, _, .bl b => .bl b
  | _, _, .int i => .int i
  | _, _, .str z => .str z
  | _, _, .tup f r => .tup (f.imp (fun h => ⟨h.1, adopt_out h.2⟩) id) (Rs.adopt r)
  | _, _, .lst f r => .lst ⟨f.1, adopt_out f.2⟩ (Rs.adopt r)
  | _, _, .scr f r => .scr (f.imp (fun h => ⟨h.1, adopt_out h.2⟩) id) (Rs.adopt r)
  | _, _, .ref (k := k) (a := a) h => .ref (by
      have h : m.ix[k]? = some a := h
      show (m.ix ++ [d])[k]? = some a
      rw [List.getElem?_append_left (List.getElem?_eq_some_iff.mp h).1]
      exact h)
  | _, _, .dct h hm c r => .dct h (adopt_out hm) c (Rp.adopt r)
  | _, _, .exc g h hm h2 hm2 r => .exc g h (adopt_out hm) h2 (adopt_out hm2) (R.adopt r)
theorem Rs.adopt : ∀ {xs : List VV} {vs : List V}, Rs K (m.apart d) H xs vs → Rs K (m.push d) H xs vs
  | _, _, .nil => .nil
  | _, _, .cons r t => .cons (R.adopt r) (Rs.adopt t)
theorem Rp.adopt : ∀ {xs : List (VV × VV)} {vs : List (DK × V)}, Rp K (m.apart d) H xs vs → Rp K (m.push d) H xs vs
  | _, _, .nil => .nil
  | _, _, .int r t => .int (R.adopt r) (Rp.adopt t)
  | _, _, .tup k f r t => .tup k (f.imp (fun h => ⟨h.1, adopt_out h.2⟩) id) (R.adopt r) (Rp.adopt t)
theorem adopt_out {a : Ad} (h : (m.apart d).out a) : (m.push d).out a := ⟨fun q => by
  rcases List.mem_append.mp (show a ∈ m.ix ++ [d] from q) with q | q
  · exact h.1 q
  · exact out_ne h (List.mem_singleton.mp q), fun q => h.2 (List.mem_cons_of_mem _ q)⟩
end
theorem SimH.adoptO {ob : Ob} (h : SimH K (m.apart d) H S) (hv : d ∉ m.av) (r : OR K (m.push d) H ob d) : SimH K (m.push d) H (S ++ [ob]) := by
  have hm : d ∉ m.ix := (h.apart d List.mem_cons_self).1
  have hl : m.ix.length = S.length := h.len
  refine ⟨by simp [Mp.push, hl], ?_, fun k ob b h1 h2 => ?_, fun b hb => ⟨fun q => ?_, (h.apart b (List.mem_cons_of_mem _ hb)).2⟩⟩
  · show (m.ix ++ [d]).Nodup
    rw [List.nodup_append]
    exact ⟨h.nd, by simp, fun x hx y hy z => hm (by rw [List.mem_singleton.mp hy] at z; exact z ▸ hx)⟩
  · have h2 : (m.ix ++ [d])[k]? = some b := h2
    by_cases hk : k < m.ix.length
    · rw [List.getElem?_append_left hk] at h2
      rw [List.getElem?_append_left (by rw [← hl]; exact hk)] at h1
      have q := h.obj k ob b h1 h2
      cases ob with
      | lst zs =>
        obtain ⟨us, h3, h4⟩ := q
        exact ⟨us, h3, h4.adopt⟩
      | dct _ _ =>
        obtain ⟨us, o, h3, h5, h4⟩ := q
        exact ⟨us, o, h3, h5, h4.adopt⟩
      | obj _ _ =>
        obtain ⟨dx, gs, h3, h5, h6, h4⟩ := q
        exact ⟨dx, gs, h3, h5, h6, h4.adopt⟩
      | lck _ _ =>
        obtain ⟨od, us, o, h3, h5, h4⟩ := q
        exact ⟨od, us, o, h3, h5, h4.adopt⟩
    · rw [List.getElem?_append_right (Nat.le_of_not_lt hk)] at h2
      rw [List.getElem?_append_right (by rw [← hl]; exact Nat.le_of_not_lt hk)] at h1
      rw [hl] at h2
      cases e : k - S.length with
      | zero =>
        rw [e] at h1 h2
        simp at h1 h2
        subst h1 h2
        exact r
      | succ n => rw [e] at h1; simp at h1
  · rcases List.mem_append.mp (show b ∈ m.ix ++ [d] from q) with q | q
    · exact (h.apart b (List.mem_cons_of_mem _ hb)).1 q
    · rw [List.mem_singleton.mp q] at hb
      exact hv hb
theorem SimH.adopt {xs : List VV} {ys : List V} (h : SimH K (m.apart d) H S) (hd : H d = some (.lst ys)) (hv : d ∉ m.av) (r : Rs K (m.apart d) H xs ys) : SimH K (m.push d) H (S ++ [.lst xs]) := h.adoptO hv ⟨ys, hd, r.adopt⟩
theorem Ext.adopt (e : Ext m H m' H') (hd : H d = none) : Ext m H (m'.push d) H' := by
  obtain ⟨t, et, hn⟩ := e.grow
  refine ⟨e.keep, e.live, e.av, e.frz, t ++ [d], by show m'.ix ++ [d] = _; rw [et, List.append_assoc], fun a ha => ?_⟩
  rcases List.mem_append.mp ha with q | q
  · exact hn a q
  · rw [List.mem_singleton.mp q]; exact hd
theorem Ext.upd_new (e : Ext m H m' H') (hd : H d = none) : Ext m H m' (upd H' d o) := by
  refine ⟨fun a u h hm => ?_, fun a h => ?_, e.av, fun a od u h => ?_, e.grow⟩
  · rw [upd_ne (ne_of_none h hd)]; exact e.keep a u h hm
  · by_cases q : a = d
    · subst q; exact absurd hd h
    · rw [upd_ne q]; exact e.live a h
  · rw [upd_ne (ne_of_none h hd)]; exact e.frz a od u h
theorem Ext.unapart {M2 : Mp} (e : Ext (m.apart d) H M2 H') : ∃ M', M2 = M'.apart d ∧ M'.av = m.av ∧ Ext m H M' H' := by
  obtain ⟨ix, av⟩ := M2
  have h : av = d :: m.av := e.av
  subst h
  exact ⟨⟨ix, m.av⟩, rfl, rfl, e.keep, e.live, rfl, e.frz, e.grow⟩
theorem wipe_like {σ σ2 : L2.St} {is vs : List Nat} (l : Like is (wipe σ vs) σ2) (h : ∀ i ∈ is, i ∈ vs) : wipe σ2 vs = wipe σ vs := by
  have key : ∀ (τ : L2.St) (vs : List Nat) (j : Nat), (wipe τ vs)[j]? = if j ∈ vs ∧ j < τ.length then some none else τ[j]? := by
    intro τ vs
    induction vs with
    | nil => intro j; simp [wipe]
    | cons v vs ih =>
      intro j
      unfold wipe
      by_cases hj : v = j
      · subst hj
        by_cases hl : v < τ.length
        · rw [List.getElem?_set_self (by rw [wipe_length]; exact hl), if_pos ⟨List.mem_cons_self, hl⟩]
        · rw [List.getElem?_eq_none (by rw [List.length_set, wipe_length]; omega), if_neg (fun z => hl z.2), List.getElem?_eq_none (by omega)]
      · rw [List.getElem?_set_ne hj, ih]
        have : (j ∈ v :: vs ∧ j < τ.length) ↔ (j ∈ vs ∧ j < τ.length) := by
          rw [List.mem_cons]
          constructor
          · rintro ⟨z | z, y⟩
            · exact absurd z.symm hj
            · exact ⟨z, y⟩
          · rintro ⟨z, y⟩
            exact ⟨.inr z, y⟩
        simp only [this]
  have hl : σ2.length = σ.length := by rw [l.1, wipe_length]
  apply List.ext_getElem?
  intro j
  rw [key, key, hl]
  split
  · rfl
  · rename_i hc
    have q := l.2 j
    by_cases hj : j ∈ is
    · have hv := h j hj
      have : ¬ j < σ.length := fun z => hc ⟨hv, z⟩
      rw [List.getElem?_eq_none (by omega), List.getElem?_eq_none (by omega)]
    · rw [q hj, key, if_neg hc]
end
theorem compL_cons {g : List (Nat × List VV)} {step : VV → Hs → Out (Option VV)} {x : VV} {xs : List VV} {s S' : Hs} {r : List VV} (h : compL g step (x :: xs) s = .ok r S') :
    gokB s g = true ∧ ∃ o s1 r', step x s = .ok o s1 ∧ compL g step xs s1 = .ok r' S' ∧ r = o.toList ++ r' := by
  unfold compL at h
  split at h
  · rename_i hg
    obtain ⟨o, s1, e1, h⟩ := Out.bind_eq_ok h
    obtain ⟨r', s2, e2, h⟩ := Out.bind_eq_ok h
    cases h
    exact ⟨hg, o, s1, r', e1, e2, rfl⟩
  · cases h
section
variable {K : PySem.W.Frag} {w w0 : Wish} {cl : Cl}
theorem Res.mk {α : Type} {m : Mp} {H : Hp} {σ : L2.St} {x : α} {S : Hs} {k : α → Hs → Prop} (h : k x S) : Res K w m H σ (.ok x S) k := h
theorem lc_rd {d : Bool} {ir : Ex} {t : Tg} {it : It} {cs : List Ex} {own : List Nat} (ht : ∀ i ∈ tvs t, i ∈ own) {σ : L2.St} {H0 : Hp} {Q : VK} (q : rdE K w (ev cl (.comp d ir t it cs own)) σ H0 Q) :
    tLc (rdI K w (evIt cl it)) (rdG K t) (rdT K w0 (evC cl cs)) (rdE K w0 (ev cl ir)) own σ H0 Q := by
  obtain ⟨m, σv, S, st, q⟩ := q
  obtain ⟨step, hstep⟩ : ∃ step : VV → Hs → Out (Option VV), step = fun x s => match asg t x (wip σv own) with
        | none => .bad
        | some σ' => (evC cl cs σ' s).bind fun b s => if b then (ev cl ir σ' s).bind fun v s => .ok (some v) s else .ok none s := ⟨_, rfl⟩
  have q : Res K w m H0 σ ((evIt cl it σv S).bind fun r s => (noX (compL r.2 step r.1 s)).bind fun vs s => mkL d vs s) fun x S' => Post K m H0 x S' Q := by
    rw [hstep]; exact q
  refine ⟨m, σv, S, st, q.bind.imp fun src S1 q1 m1 H1 J x1 h1 wk D hD => ?_⟩
  obtain ⟨x, S', e, p⟩ := q1.ok (bind_noX (noX_noX _) fun x s v s' => mkL_noX _ _ _ _ _)
  obtain ⟨rs, Sf, e1, e2⟩ := Out.bind_eq_ok e
  have e1 := noX_eq e1
  have hlen : rs.length ≤ szL := by
    unfold mkL at e2
    split at e2
    · assumption
    · cases e2
  have hDm : D ∉ m1.av := fun z => (h1.apart D z).2 hD
  obtain ⟨Wp, hWp⟩ : ∃ Wp : Nat → Hp → Prop, Wp = fun i H' => i ≤ src.1.length ∧ ∃ M S2 acc accV rest, M.av = m1.av ∧ Ext m1 H1 M H' ∧ SimH K (M.apart D) H' S2 ∧ SimE K (M.apart D) H' (wip σv own) (wipe σ own) ∧ Wk K (M.apart D) H' src J ∧
    H' D = some (.lst accV) ∧ Rs K (M.apart D) H' acc accV ∧ compL src.2 step (src.1.drop i) S2 = .ok rest Sf ∧ rs = acc ++ rest := ⟨_, rfl⟩
  refine ⟨fun i n H' => n = src.1.length - i ∧ Wp i H', ⟨src.1.length, by simp, ?_⟩, ?_⟩
  · rw [hWp]
    exact ⟨Nat.zero_le _, m1, S1, [], [], rs, rfl, Ext.refl.upd_new hD, h1.aside hD, SimE.wip (SimE.aside hD (st.e.ext x1)) own, wk.aside hD, upd_same, .nil, e1, rfl⟩
  rintro i n H' ⟨rfl, hw⟩
  rw [hWp] at hw
  obtain ⟨hi, M, S2, acc, accV, rest, hav, ex, sh, se, wk2, hd, ra, ec, er⟩ := hw
  have hDM : D ∉ M.av := by rw [hav]; exact hDm
  have hDi : D ∉ M.ix := (sh.apart D List.mem_cons_self).1
  by_cases hlt : i < src.1.length
  · right
    rw [List.drop_eq_getElem_cons hlt] at ec
    obtain ⟨hg, ov, S3, rest', e3, e4, er'⟩ := compL_cons ec
    obtain ⟨go1, go2⟩ := wk2.go sh hg (List.getElem?_eq_getElem hlt)
    refine ⟨go1, Wp (i + 1), fun H'' h => ⟨src.1.length - (i + 1), by omega, rfl, h⟩, fun v H3 y => ?_⟩
    rw [hWp]
    obtain ⟨x3, s3, r3⟩ := go2 v H3 y
    rw [hstep] at e3
    dsimp only at e3
    split at e3
    · cases e3
    rename_i σ' ea
    obtain ⟨b, S4, e5, e6⟩ := Out.bind_eq_ok e3
    refine ⟨M.apart D, _, wip σv own, σ', r3, se.ext x3, ea, fun σ2 s2 lk => ⟨wipe_like lk ht, ?_⟩⟩
    refine ⟨M.apart D, σ', S2, ⟨s3, s2⟩, ?_⟩
    rw [e5]
    refine Res.mk ?_
    intro m5 H5 x5 s5
    have st5 : SimE K m5 H5 σ' σ2 := s2.ext x5
    cases b with
    | true =>
      rw [if_pos rfl]
      obtain ⟨vv, S6, e7, e8⟩ := Out.bind_eq_ok (show (ev cl ir σ' S4).bind _ = _ from e6)
      cases e8
      refine ⟨m5, σ', S4, ⟨s5, st5⟩, ?_⟩
      rw [e7]
      refine Res.mk ?_
      intro m6 H6 u x6 s6 r6
      have x7 := (x3.trans x5).trans x6
      obtain ⟨M', rfl, hav', x8⟩ := x7.unapart
      have hd6 : H6 D = some (.lst accV) := x7.keep D _ hd hDi
      have er2 : rs = (acc ++ [vv]) ++ rest' := by rw [er, er', List.append_assoc]; rfl
      refine ⟨accV, hd6, ?_, ?_⟩
      · have l1 := ra.length
        have l2 : rs.length = acc.length + 1 + rest'.length := by rw [er2, List.length_append, List.length_append, List.length_singleton]
        show accV.length < sizeLine
        have : szL = sizeLine := rfl
        omega
      · exact ⟨hlt, M', S3, acc ++ [vv], accV ++ [u], rest', hav'.trans hav, (ex.trans x8).upd_new hD, s6.put, (se.ext x7).put, (wk2.ext x7).put, upd_same, ((ra.ext x7).append (.cons r6 .nil)).put, e4, er2⟩
    | false =>
      rw [if_neg (by decide)]
      have e8 : Out.ok (none : Option VV) S4 = .ok ov S3 := e6
      cases e8
      have x7 := x3.trans x5
      obtain ⟨M', rfl, hav', x8⟩ := x7.unapart
      exact ⟨hlt, M', S3, acc, accV, rest', hav'.trans hav, ex.trans x8, s5, se.ext x7, wk2.ext x7, x7.keep D _ hd hDi, ra.ext x7, e4, by rw [er, er']; rfl⟩
  · left
    have hi' : src.1.length ≤ i := by omega
    rw [List.drop_eq_nil_of_le hi'] at ec
    have hg : gokB S2 src.2 = true ∧ Out.ok ([] : List VV) S2 = .ok rest Sf := by
      unfold compL at ec
      split at ec
      · exact ⟨by assumption, ec⟩
      · cases ec
    obtain ⟨hg, ec⟩ := hg
    cases ec
    refine ⟨wk2.stop sh hg hi', ?_⟩
    rw [List.append_nil] at er
    subst er
    unfold mkL at e2
    rw [if_pos hlen] at e2
    cases d with
    | true =>
      cases e2
      refine p (M.push D) H' _ (x1.trans (ex.adopt hD)) (sh.adopt hd hDM ra) (.ref ?_)
      · show (M.ix ++ [D])[_]? = some D
        rw [← show M.ix.length = _ from sh.len]
        simp
    | false =>
      cases e2
      exact p M H' _ (x1.trans ex) sh.back (.lst ⟨hd, hDi, hDM⟩ ra.back)
end
end Tw
set_option Elab.async false
set_option linter.all false
set_option autoImplicit false
set_option maxRecDepth 100000
namespace Tw
open PySem PySem.Spec PyProof.Rows L2
section
variable {X : Cx}
theorem addI_ok {pins : List (Addr × Obj)} {σ : L2.St} {H : Hp} {s : Shared} {a : Ad} {M : Int → Bool} {n : Nat} {c : Int} {tk : Tok} {Q : Value → Shared → Prop} (I : Inv X pins σ H s) (ha : H a = some (SetO X.w a M n)) (hz : n + 1 < scanBound)
    (h : ∀ s', Inv X pins σ (upd H a (SetO X.w a (fun j => M j || decide (j = c)) (if M c = true then n else n + 1))) s' → Q .none s') {E : Value → Shared → Prop} : wpAny (model X.prog X.w) X.A (call (.builtin "set.add") [.ref a, .int c tk]) Q E s := by
  refine setR_add (setO_get I ha) hz fun h' same new => ?_
  have there : ∃ u, h'.get? a = some u := let ⟨o, _, _, _, ho, _⟩ := new; ⟨o, ho⟩
  exact h _ (I.write (e := a) (t' := s.toks + 1) (by rw [ha]; exact True.intro) (.inl rfl) (fun b u hb e => (same.2 b hb).trans e) there (setO_new new))
def tSi (w : World) (wi : TI) (g : TG) (tt : TT) (te : TE) (vs : List Nat) : TE := fun σ H Q => wi σ H fun J Ha => ∀ N, Ha N = none → ∃ W : Nat → Nat → Hp → Prop, (∃ n, W 0 n (upd Ha N (SetO w N (fun _ => false) 0))) ∧ ∀ i n Hb, W i n Hb →
  (J.stop i Hb ∧ Q (.ref N) Hb) ∨ (J.go i Hb ∧ ∃ Nx : Hp → Prop, (∀ Hc, Nx Hc → ∃ n', n' < n ∧ W (i + 1) n' Hc) ∧ ∀ x Hc, J.yld i Hb x Hc → g x (wipe σ vs) Hc fun σ2 Hd => wipe σ2 vs = wipe σ vs ∧ tt σ2 Hd fun b He =>
    if b = true then te σ2 He fun y Hf => ∃ (c : Int) (M : Int → Bool) (k : Nat), y = .int c ∧ Hf N = some (SetO w N M k) ∧ k + 1 < scanBound ∧ Nx (upd Hf N (SetO w N (fun j => M j || decide (j = c)) (if M c = true then k else k + 1))) else Nx He)
theorem si_run {pins : List (Addr × Obj)} {s0 : Shared} {σ : L2.St} {H0 : Hp} {Q : VK} {elt tg iter : Expr} {ifs : List Expr} {scope : Scope} {own : List (Str × Nat)} {pos pos' : Pos} {wi : TI} {g : TG} {tt : TT} {te : TE} {use : Option (Value → Sem Unit)} {Qf : Value → Shared → Prop}
    (calm : X.calm = true) (nd : X.N.Nodup) (I0 : Inv X pins σ H0 s0) (hi : PI X tg iter wi) (ok : BlkOk X.N X.env.scope scope own) (hg : InBlk X scope fun Y => PG Y tg g) (ht : InBlk X scope fun Y => PTs Y ifs tt) (he : InBlk X scope fun Y => PE Y elt te)
    (fold : ∀ x, foldedSetIterable iter X.env x = pure x) (h : tSi X.w wi g tt te (own.map (·.2)) σ H0 Q)
    (after : ∀ N C s' m H', Inv X pins σ H' s' → Q (.ref N) H' → s'.heap.Ns C m → FpOk X pins H' C → compPost (model X.prog X.w) X.A X.xe use Qf (.ref N) C (.ok .next) s') :
    wpAny (model X.prog X.w) X.A (comprehension (.SetComp elt [⟨tg, iter, ifs, 0⟩] scope pos) scope X.env pos' (newSet (.type "set")) false (eval iter X.env) use) Qf X.xe s0 := by
  have hfree : ∀ y ∈ scope.names, y.2 = .free → ∃ c, X.env.cells.lookup y.1 = some c := fun y hy e => (ok.free y hy e).elim (fun z => I0.ok.has _ (.inl z)) fun z => I0.ok.has _ (.inr z)
  refine wpAny_comprehension_free (use := use) rfl fold (closure_ok hfree) ok.kind (fun y hy e => by rw [ok.uniq y hy, e]) (thn (hi.run pins s0 σ H0 _ I0 h) fun seqv sa qa => thn qa fun itv sb qb => ?_)
  obtain ⟨it, fp, inv, J, Ha, rfl, Ia, T, sta, fpa, q⟩ := qb
  refine PpSet.newSet_ok (newEnv_comp ?_)
  obtain ⟨N, hN⟩ : ∃ N, sb.heap.objs.size = N := ⟨_, rfl⟩
  rw [hN]
  have free : Ha N = none := Ia.hok.fresh (Nat.le_of_eq hN)
  obtain ⟨W, ⟨n0, w0⟩, turn⟩ := q N free
  obtain ⟨sc, hsc⟩ : ∃ sc : Shared, sc = { sb with heap := sb.heap.push { cls := .type "set", dict := none, data := .set #[] 0 (.fresh 0 0 (!X.w.params.followText "set-order")) } } := ⟨_, rfl⟩
  rw [← hsc]
  have hpc : sc.heap = sb.heap.push { cls := .type "set", dict := none, data := .set #[] 0 (.fresh 0 0 (!X.w.params.followText "set-order")) } := by rw [hsc]
  have Ic : Inv X pins σ (upd Ha N (SetO X.w N (fun _ => false) 0)) sc := by
    rw [hsc]
    refine Ia.laid (t' := sb.toks) (fun b o e => Heap.get?_push_of_some _ e) (Nat.le_of_eq hN) (setO_new ?_)
    have := setR_fresh (h := sb.heap) X.w
    rwa [hN] at this
  have below : ∀ b ∈ fp, b < sb.heap.objs.size := fun b hb => let ⟨o, e, _⟩ := T.obj _ _ sta b hb; Heap.lt_size e
  have fpc : ∀ b ∈ fp, FpOk X pins (upd Ha N (SetO X.w N (fun _ => false) 0)) b ∧ b < sc.heap.objs.size := fun b hb => by
    have lt := below b hb
    refine ⟨⟨?_, (fpa b hb).2⟩, by rw [hpc, Heap.size_push]; exact Nat.lt_succ_of_lt lt⟩
    rw [upd_ne (by rw [← hN]; exact Nat.ne_of_lt lt)]
    exact (fpa b hb).1
  have stc : inv 0 sc.heap := T.keep _ _ _ sta fun b _ o e => by rw [hpc]; exact Heap.get?_push_of_some _ e
  have Id := block_start Ic ok nd fpc
  obtain ⟨env, henv⟩ : ∃ env, env = compEnvC scope (cellsFrom (sc.heap.objs.size + 1) scope.names (cloFrom X.env.cells scope.names [])) sc.heap.objs.size X.env := ⟨_, rfl⟩
  have Pg := hg sc (upd Ha N (SetO X.w N (fun _ => false) 0)) sc.heap.objs.size (cellsFrom (sc.heap.objs.size + 1) scope.names (cloFrom X.env.cells scope.names [])) fp
  have Pt := ht sc (upd Ha N (SetO X.w N (fun _ => false) 0)) sc.heap.objs.size (cellsFrom (sc.heap.objs.size + 1) scope.names (cloFrom X.env.cells scope.names [])) fp
  have Pe := he sc (upd Ha N (SetO X.w N (fun _ => false) 0)) sc.heap.objs.size (cellsFrom (sc.heap.objs.size + 1) scope.names (cloFrom X.env.cells scope.names [])) fp
  obtain ⟨sd, hsd⟩ : ∃ sd : Shared, sd = { sc with heap := pushCells (sc.heap.push { cls := .type "dict", data := .dict #[] }) scope.names } := ⟨_, rfl⟩
  show codeAny _ _ (.compStart (.SetComp elt [⟨tg, iter, ifs, 0⟩] scope pos) 0 (.ref it) (.ref N) (compEnvC scope (cellsFrom (sc.heap.objs.size + 1) scope.names (cloFrom X.env.cells scope.names [])) sc.heap.objs.size X.env)) (compPost (model X.prog X.w) X.A X.xe use Qf (.ref N) sc.heap.objs.size)
    { sc with heap := pushCells (sc.heap.push { cls := .type "dict", data := .dict #[] }) scope.names }
  rw [← henv] at Id Pg Pt Pe ⊢
  rw [← hsd] at Id ⊢
  have locC : env.locals = sc.heap.objs.size := by rw [henv]; rfl
  have none_fp : ∀ b ∈ fp, (upd Ha N (SetO X.w N (fun _ => false) 0)) b = none := fun b hb => (fpc b hb).1.1
  obtain ⟨Hn, hHn⟩ : ∃ Hn, Hn = upd Ha N (SetO X.w N (fun _ => false) 0) := ⟨_, rfl⟩
  rw [← hHn] at Ic Id Pg Pt Pe w0 none_fp fpc
  have stD : inv 0 sd.heap := T.keep _ _ _ stc fun b _ o e => by rw [hsd]; exact pushCells_keeps _ _ _ _ (Heap.get?_push_of_some _ e)
  have still : ∀ {σ' : L2.St} {H' : Hp} {s' : Shared}, Inv (X.blk sc Hn scope env fp) [] σ' H' s' → (∀ b ∈ fp, H' b = none) → ∀ b ∈ fp, FpOk (X.blk sc Hn scope env fp) [] H' b := fun {σ' H' s'} I' no b hb =>
    ⟨no b hb, (I'.ok.exf b hb).1, I'.ok.exfs b hb, .inl hb, fun x c e => (I'.ok.exf b hb).2 x c e, fun p hp => absurd (show p ∈ ([] : List (Addr × Obj)) ++ [] from hp) (by simp)⟩
  let Turn : Nat → Shared → Prop := fun n s' => ∃ i H', Inv (X.blk sc Hn scope env fp) [] (wipe σ (own.map (·.2))) H' s' ∧ inv i s'.heap ∧ (∀ b ∈ fp, H' b = none) ∧ W i n H'
  have loop : codeAny (model X.prog X.w) X.A (.compLoop (.SetComp elt [⟨tg, iter, ifs, 0⟩] scope pos) 0 (.ref it) (.ref N) env) (compPost (model X.prog X.w) X.A X.xe use Qf (.ref N) sc.heap.objs.size) sd := by
    refine PpSet.compLoopS_any Turn ?_ n0 ⟨0, Hn, Id, stD, none_fp, w0⟩
    rintro n s1 ⟨i, H1, I1, st1, no1, w1⟩
    rcases turn i n H1 w1 with ⟨stop, fine⟩ | ⟨go, Nx, hNx, step⟩
    · refine thnF (T.done (X.blk sc Hn scope env fp) rfl rfl rfl calm i [] s1 _ H1 (fun _ _ => False) I1 (still I1 no1) st1 stop) fun r s2 qd => ?_
      obtain ⟨rfl, I2⟩ := qd
      have back : Inv X pins σ H1 s2 := Ic.call' (ch := fp) I2.os I2.base I2.hok I2.bare fun b hb => ⟨(fpc b hb).1.2.2.2.1, (fpc b hb).1.2.1, (fpc b hb).1.2.2.2.2.1, (fpc b hb).1.2.2.2.2.2⟩
      have noC : H1 sc.heap.objs.size = none := by
        have := (show H1 env.locals = none from I2.free)
        rwa [locC] at this
      obtain ⟨mm, ns, _⟩ := I2.loc
      have ns : s2.heap.Ns env.locals mm := ns
      rw [locC] at ns
      exact after N sc.heap.objs.size s2 mm H1 back fine ns (Ic.fpOk (Nat.le_refl _) noC)
    · refine thnF (T.item (X.blk sc Hn scope env fp) rfl rfl rfl calm i [] s1 _ H1 (fun _ _ => False) I1 (still I1 no1) st1 go) fun r s2 qi => ?_
      obtain ⟨u, rfl, h2⟩ := qi
      refine thnF h2 fun _ s3 q3 => ?_
      obtain ⟨x, H3, I3, r3, y3, st3, no3⟩ := q3
      have I3p := I3.pinned (still I3 no3) (T.obj _ _ st3)
      refine thnF (Pg.run _ s3 _ H3 x u _ I3p r3 (step x H3 y3)) fun _ s4 q4 => ?_
      obtain ⟨σ4, H4, I4, hw4, t4⟩ := q4
      refine thnF (Pt.run _ s4 σ4 H4 _ I4 t4) fun b s5 q5 => ?_
      obtain ⟨H5, I5, t5⟩ := q5
      have over : ∀ {s' : Shared} {H' : Hp}, Inv (X.blk sc Hn scope env fp) ([] ++ pinsAt fp s3.heap) σ4 H' s' → Nx H' → ∃ m, m < n ∧ Turn m s' := fun {s' H'} I' nx => by
        obtain ⟨m', lt, w'⟩ := hNx H' nx
        have pin : ∀ b ∈ fp, ∀ o, s3.heap.get? b = some o → s'.heap.get? b = some o ∧ H' b = none := fun b hb o e =>
          let z := I'.pin (b, o) (List.mem_append_right _ (List.mem_append_right _ (mem_pinsAt hb e)))
          ⟨z.1, z.2.1⟩
        have len : (wipe σ (own.map (·.2))).length = σ4.length := by rw [← hw4, wipe_length]
        refine ⟨m', lt, i + 1, H', (I'.unpinned (pins := [])).weak len (fun j v e => ?_), T.keep _ _ _ st3 fun b hb o e => (pin b hb o e).1, fun b hb => ?_, w'⟩
        · rw [← hw4] at e
          exact (wipe_some e).1
        · obtain ⟨o, e, _⟩ := T.obj _ _ st3 b hb
          exact (pin b hb o e).2
      cases b with
      | false =>
        have t5 : Nx H5 := by simpa using t5
        have := over I5 t5
        simpa using this
      | true =>
        rw [if_pos rfl]
        have t5 : te σ4 H5 fun y Hf => ∃ (c : Int) (M : Int → Bool) (k : Nat), y = .int c ∧ Hf N = some (SetO X.w N M k) ∧ k + 1 < scanBound ∧ Nx (upd Hf N (SetO X.w N (fun j => M j || decide (j = c)) (if M c = true then k else k + 1))) := by simpa using t5
        refine thnF (Pe.run _ s5 σ4 H5 _ I5 t5) fun vw s6 q6 => ?_
        obtain ⟨yv, H6, I6, r6, c, M, k, rfl, hN6, hz, nx⟩ := q6
        obtain ⟨tk, rfl⟩ := (show ∃ t, vw = Value.int c t from r6)
        exact addI_ok (X := X.blk sc Hn scope env fp) I6 hN6 hz fun s7 I7 => over I7 nx
  exact PpSet.codeAny_compStart_set loop (T.self X.A 0 _ _ _ stD loop)
theorem pe_si {elt tg iter : Expr} {ifs : List Expr} {scope : Scope} {own : List (Str × Nat)} {pos : Pos} {wi : TI} {g : TG} {tt : TT} {te : TE} (calm : X.calm = true) (nd : X.N.Nodup) (hi : PI X tg iter wi) (ok : BlkOk X.N X.env.scope scope own)
    (hg : InBlk X scope fun Y => PG Y tg g) (ht : InBlk X scope fun Y => PTs Y ifs tt) (he : InBlk X scope fun Y => PE Y elt te) (fold : ∀ x, foldedSetIterable iter X.env x = pure x) :
    PE X (.SetComp elt [⟨tg, iter, ifs, 0⟩] scope pos) (tSi X.w wi g tt te (own.map (·.2))) := by
  refine ⟨fun pins s σ H Q I h => ?_⟩
  rw [PpSet.eval_SetComp]
  refine si_run calm nd I hi ok hg ht he fold h fun N C s' m H' I' q ns fpo => ⟨m, ns, fun h'' same => ?_⟩
  obtain ⟨f0, f1, f2, f3, f4, f5⟩ := fpo
  exact ⟨.ref N, H', I'.turned (t' := s'.toks) (fun b o hb e => (same.2 b hb).trans e) f0 f1 f3 f4 f5, rfl, q⟩
end
end Tw
set_option Elab.async false
set_option linter.all false
set_option autoImplicit false
set_option maxRecDepth 100000
namespace Tw
open PySem PySem.Spec PyProof.Rows L2
def tXc (emp : Ad → HO) (ins : Ad → Hp → V → V → (Hp → Prop) → Prop) (wi : TI) (g : TG) (tt : TT) (tk tv : TE) (vs : List Nat) : TE := fun σ H Q => wi σ H fun J Ha => ∀ N, Ha N = none → ∃ W : Nat → Nat → Hp → Prop, (∃ n, W 0 n (upd Ha N (emp N))) ∧ ∀ i n Hb, W i n Hb →
  (J.stop i Hb ∧ Q (.ref N) Hb) ∨ (J.go i Hb ∧ ∃ Nx : Hp → Prop, (∀ Hc, Nx Hc → ∃ n', n' < n ∧ W (i + 1) n' Hc) ∧ ∀ x Hc, J.yld i Hb x Hc → g x (wipe σ vs) Hc fun σ2 Hd => wipe σ2 vs = wipe σ vs ∧ tt σ2 Hd fun b He =>
    if b = true then tk σ2 He fun y Hf => tv σ2 Hf fun z Hg => ins N Hg y z Nx else Nx He)
def empD (t : Bool) (N : Ad) : HO := if t then dicO N [] else .dK []
def insD (K : PySem.W.Frag) (t : Bool) (N : Ad) (H : Hp) (y z : V) (Nx : Hp → Prop) : Prop := if t then ∃ Hh, NPut K H N y z Hh ∧ Nx Hh else ∃ us j, y = kV j ∧ H N = some (.dK us) ∧ us.length < sizeLine ∧ Nx (upd H N (.dK (putK us j z)))
theorem putAll_cons {t : Bool} {k v : VV} {r : List VV} {acc kvs : List (VV × VV)} (h : putAll t (.tup [k, v] :: r) acc = some kvs) : ∃ d, keyD k = some d ∧ d.tu = t ∧ acc.length < szL ∧ putAll t r (putD acc k d v) = some kvs := by
  unfold putAll at h
  split at h
  · rename_i d hd
    split at h
    · rename_i hc
      exact ⟨d, hd, hc.1, hc.2, h⟩
    · cases h
  · cases h
section
variable {K : PySem.W.Frag} {w w0 : Wish} {cl : Cl}
theorem dc_rd {d t : Bool} {ik iv : Ex} {tg : Tg} {it : It} {cs : List Ex} {own : List Nat} (ht : ∀ i ∈ tvs tg, i ∈ own) {σ : L2.St} {H0 : Hp} {Q : VK} (q : rdE K w (ev cl (.dcomp d t ik iv tg it cs own)) σ H0 Q) :
    tXc (empD t) (insD K t) (rdI K w (evIt cl it)) (rdG K tg) (rdT K w0 (evC cl cs)) (rdE K w0 (ev cl ik)) (rdE K w0 (ev cl iv)) own σ H0 Q := by
  obtain ⟨m, σv, S, st, q⟩ := q
  obtain ⟨step, hstep⟩ : ∃ step : VV → Hs → Out (Option VV), step = fun x s => match asg tg x (wip σv own) with
        | none => .bad
        | some σ' => (evC cl cs σ' s).bind fun b s => if b then (ev cl ik σ' s).bind fun k s => (ev cl iv σ' s).bind fun v s => .ok (some (.tup [k, v])) s else .ok none s := ⟨_, rfl⟩
  have q : Res K w m H0 σ ((evIt cl it σv S).bind fun r s => (noX (compL r.2 step r.1 s)).bind fun vs s => (lift (putAll t vs []) s).bind fun kvs s => mkD d t kvs s) fun x S' => Post K m H0 x S' Q := by
    rw [hstep]; exact q
  refine ⟨m, σv, S, st, q.bind.imp fun src S1 q1 m1 H1 J x1 h1 wk D hD => ?_⟩
  obtain ⟨x, S', e, p⟩ := q1.ok (bind_noX (noX_noX _) fun x s => bind_noX (lift_noX _ _) fun kvs s => mkD_noX _ _ _ _)
  obtain ⟨rs, Sf, e1, e2⟩ := Out.bind_eq_ok e
  have e1 := noX_eq e1
  obtain ⟨kvs, Sg, e3, e4⟩ := Out.bind_eq_ok e2
  obtain ⟨e3', rfl⟩ := lift_eq_ok e3
  have hDm : D ∉ m1.av := fun z => (h1.apart D z).2 hD
  obtain ⟨Wp, hWp⟩ : ∃ Wp : Nat → Hp → Prop, Wp = fun i H' => i ≤ src.1.length ∧ ∃ M S2 acc o xs rest, M.av = m1.av ∧ Ext m1 H1 M H' ∧ SimH K (M.apart D) H' S2 ∧ SimE K (M.apart D) H' (wip σv own) (wipe σ own) ∧ Wk K (M.apart D) H' src J ∧
    H' D = some o ∧ dcO D t xs o ∧ Rp K (M.apart D) H' acc xs ∧ compL src.2 step (src.1.drop i) S2 = .ok rest Sg ∧ putAll t rest acc = some kvs := ⟨_, rfl⟩
  refine ⟨fun i n H' => n = src.1.length - i ∧ Wp i H', ⟨src.1.length, by simp, ?_⟩, ?_⟩
  · rw [hWp]
    refine ⟨Nat.zero_le _, m1, S1, [], empD t D, [], rs, rfl, Ext.refl.upd_new hD, h1.aside hD, SimE.wip (SimE.aside hD (st.e.ext x1)) own, wk.aside hD, upd_same, ?_, .nil, e1, e3'⟩
    cases t with
    | true => exact .inr ⟨rfl, [], rfl, rfl⟩
    | false => exact .inl ⟨rfl, [], rfl, rfl⟩
  rintro i n H' ⟨rfl, hw⟩
  rw [hWp] at hw
  obtain ⟨hi, M, S2, acc, o, xs, rest, hav, ex, sh, se, wk2, hd, hdc, ra, ec, er⟩ := hw
  have hDM : D ∉ M.av := by rw [hav]; exact hDm
  have hDi : D ∉ M.ix := (sh.apart D List.mem_cons_self).1
  by_cases hlt : i < src.1.length
  · right
    rw [List.drop_eq_getElem_cons hlt] at ec
    obtain ⟨hg, ov, S3, rest', e5, e6, er'⟩ := compL_cons ec
    obtain ⟨go1, go2⟩ := wk2.go sh hg (List.getElem?_eq_getElem hlt)
    refine ⟨go1, Wp (i + 1), fun H'' h => ⟨src.1.length - (i + 1), by omega, rfl, h⟩, fun v H3 y => ?_⟩
    rw [hWp]
    obtain ⟨x3, s3, r3⟩ := go2 v H3 y
    rw [hstep] at e5
    dsimp only at e5
    split at e5
    · cases e5
    rename_i σ' ea
    obtain ⟨b, S4, e7, e8⟩ := Out.bind_eq_ok e5
    refine ⟨M.apart D, _, wip σv own, σ', r3, se.ext x3, ea, fun σ2 s2 lk => ⟨wipe_like lk ht, ?_⟩⟩
    refine ⟨M.apart D, σ', S2, ⟨s3, s2⟩, ?_⟩
    rw [e7]
    refine Res.mk ?_
    intro m5 H5 x5 s5
    have st5 : SimE K m5 H5 σ' σ2 := s2.ext x5
    cases b with
    | true =>
      rw [if_pos rfl]
      obtain ⟨kk, S6, e9, e10⟩ := Out.bind_eq_ok (show (ev cl ik σ' S4).bind _ = _ from e8)
      obtain ⟨vv, S7, e11, e12⟩ := Out.bind_eq_ok (show (ev cl iv σ' S6).bind _ = _ from e10)
      cases e12
      refine ⟨m5, σ', S4, ⟨s5, st5⟩, ?_⟩
      rw [e9]
      refine Res.mk ?_
      intro m6 H6 u x6 s6 r6
      refine ⟨m6, σ', S6, ⟨s6, st5.ext x6⟩, ?_⟩
      rw [e11]
      refine Res.mk ?_
      intro m7 H7 u2 x7 s7 r7
      have x8 := ((x3.trans x5).trans x6).trans x7
      obtain ⟨M', rfl, hav', x9⟩ := x8.unapart
      have hd7 : H7 D = some o := x8.keep D _ hd hDi
      rw [er'] at er
      obtain ⟨dk, k1, k2, k3, k4⟩ := putAll_cons er
      obtain ⟨o', xs', p1, p2, p3, p4⟩ := put_rd (K := K) (m := M'.apart D) (H := H7) (z := vv) (v := u2) hd7 hdc (ra.ext x8) (r6.ext x7) k1 k2 k3 r7
      have fine : ∀ o2, o2 = o' → i + 1 ≤ src.1.length ∧ ∃ M' S2 acc o xs rest, M'.av = m1.av ∧ Ext m1 H1 M' (upd H7 D o2) ∧ SimH K (M'.apart D) (upd H7 D o2) S2 ∧ SimE K (M'.apart D) (upd H7 D o2) (wip σv own) (wipe σ own) ∧ Wk K (M'.apart D) (upd H7 D o2) src J ∧
          (upd H7 D o2) D = some o ∧ dcO D t xs o ∧ Rp K (M'.apart D) (upd H7 D o2) acc xs ∧ compL src.2 step (src.1.drop (i + 1)) S2 = .ok rest Sg ∧ putAll t rest acc = some kvs := fun o2 eo => by
        subst eo
        exact ⟨hlt, M', S3, _, _, xs', rest', hav'.trans hav, (ex.trans x9).upd_new hD, s7.put, (se.ext x8).put, (wk2.ext x8).put, upd_same, p3, p4.put, e6, k4⟩
      unfold insD
      cases t with
      | true =>
        rw [if_pos rfl]
        exact ⟨_, p1 rfl, fine _ rfl⟩
      | false =>
        rw [if_neg (by decide)]
        obtain ⟨us, j, f1, f2, f3, f4⟩ := p2 rfl
        exact ⟨us, j, f2, f1, f3, fine _ f4.symm⟩
    | false =>
      rw [if_neg (by decide)]
      have e13 : Out.ok (none : Option VV) S4 = .ok ov S3 := e8
      cases e13
      have x7 := x3.trans x5
      obtain ⟨M', rfl, hav', x8⟩ := x7.unapart
      exact ⟨hlt, M', S3, acc, o, xs, rest', hav'.trans hav, ex.trans x8, s5, se.ext x7, wk2.ext x7, x7.keep D _ hd hDi, hdc, ra.ext x7, e6, by rw [er'] at er; exact er⟩
  · left
    have hi' : src.1.length ≤ i := by omega
    rw [List.drop_eq_nil_of_le hi'] at ec
    have hg : gokB S2 src.2 = true ∧ Out.ok ([] : List VV) S2 = .ok rest Sg := by
      unfold compL at ec
      split at ec
      · exact ⟨by assumption, ec⟩
      · cases ec
    obtain ⟨hg, ec⟩ := hg
    cases ec
    refine ⟨wk2.stop sh hg hi', ?_⟩
    have er : some acc = some kvs := er
    cases er
    unfold mkD at e4
    cases d with
    | true =>
      cases e4
      refine p (M.push D) H' _ (x1.trans (ex.adopt hD)) (sh.adoptO hDM ⟨xs, o, hd, hdc, ra.adopt⟩) (.ref ?_)
      · show (M.ix ++ [D])[_]? = some D
        rw [← show M.ix.length = _ from sh.len]
        simp
    | false =>
      cases e4
      exact p M H' _ (x1.trans ex) sh.back (.dct hd ⟨hDi, hDM⟩ hdc ra.back)
end
theorem insS_mem {a x : Int} : ∀ {l : List Int}, x ∈ insS a l ↔ x = a ∨ x ∈ l
  | [] => by simp [insS]
  | y :: l => by
    unfold insS
    split
    · simp
    · split
      · rename_i e
        subst e
        simp
      · rw [List.mem_cons, insS_mem (l := l), List.mem_cons]
        constructor
        · rintro (h | h | h)
          · exact .inr (.inl h)
          · exact .inl h
          · exact .inr (.inr h)
        · rintro (h | h | h)
          · exact .inr (.inl h)
          · exact .inl h
          · exact .inr (.inr h)
theorem insS_sorted {a : Int} : ∀ {l : List Int}, l.Pairwise (· < ·) → (insS a l).Pairwise (· < ·)
  | [], _ => by simp [insS]
  | y :: l, h => by
    rw [List.pairwise_cons] at h
    unfold insS
    split
    · rename_i hlt
      refine List.pairwise_cons.mpr ⟨fun z hz => ?_, List.pairwise_cons.mpr h⟩
      rcases List.mem_cons.mp hz with e | hz
      · rw [e]; exact hlt
      · have := h.1 z hz; omega
    · split
      · exact List.pairwise_cons.mpr h
      · rename_i h1 h2
        refine List.pairwise_cons.mpr ⟨fun z hz => ?_, insS_sorted h.2⟩
        rcases insS_mem.mp hz with e | hz
        · rw [e]; omega
        · exact h.1 z hz
theorem sortS_mem {x : Int} : ∀ {l : List Int}, x ∈ sortS l ↔ x ∈ l
  | [] => by simp [sortS]
  | y :: l => by
    unfold sortS
    rw [insS_mem, sortS_mem (l := l), List.mem_cons]
theorem sortS_sorted : ∀ {l : List Int}, (sortS l).Pairwise (· < ·)
  | [] => by simp [sortS]
  | y :: l => by
    unfold sortS
    exact insS_sorted sortS_sorted
theorem insS_len {a : Int} : ∀ {l : List Int}, l.Pairwise (· < ·) → (a ∈ l → (insS a l).length = l.length) ∧ (a ∉ l → (insS a l).length = l.length + 1)
  | [], _ => by simp [insS]
  | y :: l, h => by
    rw [List.pairwise_cons] at h
    obtain ⟨i1, i2⟩ := insS_len (a := a) h.2
    unfold insS
    split
    · rename_i hlt
      refine ⟨fun hm => ?_, fun _ => by simp⟩
      rcases List.mem_cons.mp hm with e | hm
      · omega
      · have := h.1 a hm; omega
    · split
      · rename_i e
        subst e
        exact ⟨fun _ => rfl, fun hm => absurd List.mem_cons_self hm⟩
      · rename_i h1 h2
        refine ⟨fun hm => ?_, fun hm => ?_⟩
        · rcases List.mem_cons.mp hm with e | hm
          · exact absurd e h2
          · rw [List.length_cons, List.length_cons, i1 hm]
        · rw [List.length_cons, List.length_cons, i2 (fun q => hm (List.mem_cons_of_mem _ q))]
theorem sortS_snoc {c : Int} : ∀ {l : List Int}, (c ∈ l → (sortS (l ++ [c])).length = (sortS l).length) ∧ (c ∉ l → (sortS (l ++ [c])).length = (sortS l).length + 1)
  | [] => by simp [sortS, insS]
  | y :: l => by
    obtain ⟨i1, i2⟩ := sortS_snoc (c := c) (l := l)
    show (_ → (insS y (sortS (l ++ [c]))).length = (insS y (sortS l)).length) ∧ (_ → (insS y (sortS (l ++ [c]))).length = (insS y (sortS l)).length + 1)
    obtain ⟨a1, a2⟩ := insS_len (a := y) (l := sortS (l ++ [c])) sortS_sorted
    obtain ⟨b1, b2⟩ := insS_len (a := y) (l := sortS l) sortS_sorted
    rw [sortS_mem] at a1 a2 b1 b2
    by_cases hy : y ∈ l
    · have q1 := a1 (List.mem_append_left _ hy)
      have q2 := b1 hy
      refine ⟨fun hc => ?_, fun hc => ?_⟩
      · rw [q1, q2]
        rcases List.mem_cons.mp hc with e | hc
        · subst e; exact i1 hy
        · exact i1 hc
      · rw [q1, q2]
        exact i2 fun q => hc (List.mem_cons_of_mem _ q)
    · have q2 := b2 hy
      by_cases hcy : c = y
      · subst hcy
        have q1 := a1 (List.mem_append_right _ (List.mem_singleton.mpr rfl))
        refine ⟨fun hc => ?_, fun hc => absurd List.mem_cons_self hc⟩
        rw [q1, q2, i2 hy]
      · have q1 := a2 (fun q => by
          rcases List.mem_append.mp q with q | q
          · exact hy q
          · exact hcy (List.mem_singleton.mp q).symm)
        refine ⟨fun hc => ?_, fun hc => ?_⟩
        · rcases List.mem_cons.mp hc with e | hc
          · exact absurd e hcy
          · rw [q1, q2, i1 hc]
        · rw [q1, q2, i2 fun q => hc (List.mem_cons_of_mem _ q)]
theorem sortS_mono : ∀ {r l : List Int}, (sortS l).length ≤ (sortS (l ++ r)).length
  | [], l => by simp
  | c :: r, l => by
    have := sortS_mono (r := r) (l := l ++ [c])
    rw [List.append_assoc] at this
    obtain ⟨i1, i2⟩ := sortS_snoc (c := c) (l := l)
    have h2 : (sortS l).length ≤ (sortS (l ++ [c])).length := by
      by_cases hc : c ∈ l
      · rw [i1 hc]; exact Nat.le_refl _
      · rw [i2 hc]; omega
    exact Nat.le_trans h2 this
theorem sortedS_uniq : ∀ {a b : List Int}, a.Pairwise (· < ·) → b.Pairwise (· < ·) → (∀ x, x ∈ a ↔ x ∈ b) → a = b
  | [], [], _, _, _ => rfl
  | [], y :: b, _, _, h => absurd ((h y).mpr List.mem_cons_self) (by simp)
  | x :: a, [], _, _, h => absurd ((h x).mp List.mem_cons_self) (by simp)
  | x :: a, y :: b, ha, hb, h => by
    rw [List.pairwise_cons] at ha hb
    have hxy : x = y := by
      rcases List.mem_cons.mp ((h x).mp List.mem_cons_self) with e | e
      · exact e
      · rcases List.mem_cons.mp ((h y).mpr List.mem_cons_self) with e2 | e2
        · exact e2.symm
        · have h1 := ha.1 y e2
          have h2 := hb.1 x e
          omega
    subst hxy
    rw [sortedS_uniq ha.2 hb.2 fun z => ⟨fun hz => ?_, fun hz => ?_⟩]
    · rcases List.mem_cons.mp ((h z).mp (List.mem_cons_of_mem _ hz)) with e | e
      · have := ha.1 z hz; omega
      · exact e
    · rcases List.mem_cons.mp ((h z).mpr (List.mem_cons_of_mem _ hz)) with e | e
      · have := hb.1 z hz; omega
      · exact e
section
variable {K : PySem.W.Frag} {w w0 : Wish} {cl : Cl}
theorem ints_split : ∀ {a b : List VV} {ns : List Int}, intsOf (a ++ b) = some ns → ∃ n1 n2, intsOf a = some n1 ∧ intsOf b = some n2 ∧ ns = n1 ++ n2
  | [], b, ns, e => ⟨[], ns, rfl, e, rfl⟩
  | x :: a, b, ns, e => by
    have e : mapO intOf (x :: (a ++ b)) = some ns := e
    unfold mapO at e
    split at e
    · rename_i y ys e1 e2
      cases e
      obtain ⟨n1, n2, h1, h2, h3⟩ := ints_split (a := a) (b := b) e2
      refine ⟨y :: n1, n2, ?_, h2, by rw [h3]; rfl⟩
      show mapO intOf (x :: a) = _
      unfold mapO
      have h1 : mapO intOf a = some n1 := h1
      rw [e1, h1]
    · cases e
theorem sc_rd (W : World) {d : Bool} {ir : Ex} {tg : Tg} {it : It} {cs : List Ex} {own : List Nat} (ht : ∀ i ∈ tvs tg, i ∈ own) {σ : L2.St} {H0 : Hp} {Q : VK} (q : rdE K w (ev cl (.scomp d ir tg it cs own)) σ H0 Q) :
    tCB (rSortedSet W) (tCons (tSi W (rdI K w (evIt cl it)) (rdG K tg) (rdT K w0 (evC cl cs)) (rdE K w0 (ev cl ir)) own) tNil) σ H0 Q := by
  obtain ⟨m, σv, S, st, q⟩ := q
  obtain ⟨step, hstep⟩ : ∃ step : VV → Hs → Out (Option VV), step = fun x s => match asg tg x (wip σv own) with
        | none => .bad
        | some σ' => (evC cl cs σ' s).bind fun b s => if b then (ev cl ir σ' s).bind fun v s => .ok (some v) s else .ok none s := ⟨_, rfl⟩
  have q : Res K w m H0 σ ((evIt cl it σv S).bind fun r s => (noX (compL r.2 step r.1 s)).bind fun vs s => (lift (intsOf vs) s).bind fun ns s => if (sortS ns).length < 64 then mkL d ((sortS ns).map .int) s else .bad) fun x S' => Post K m H0 x S' Q := by
    rw [hstep]; exact q
  refine ⟨m, σv, S, st, q.bind.imp fun src S1 q1 m1 H1 J x1 h1 wk D hD => ?_⟩
  obtain ⟨x, S', e, p⟩ := q1.ok (bind_noX (noX_noX _) fun x s => bind_noX (lift_noX _ _) fun ns s v s' h => by
    split at h
    · exact mkL_noX _ _ _ _ _ h
    · cases h)
  obtain ⟨rs, Sf, e1, e2⟩ := Out.bind_eq_ok e
  have e1 := noX_eq e1
  obtain ⟨ns, Sg, e3, e4⟩ := Out.bind_eq_ok e2
  obtain ⟨e3', rfl⟩ := lift_eq_ok e3
  split at e4
  rotate_left
  · cases e4
  rename_i h64
  have hb : 64 < scanBound := by decide
  have hDm : D ∉ m1.av := fun z => (h1.apart D z).2 hD
  obtain ⟨Wp, hWp⟩ : ∃ Wp : Nat → Hp → Prop, Wp = fun i H' => i ≤ src.1.length ∧ ∃ M S2 acc n1 rest mem k, M.av = m1.av ∧ Ext m1 H1 M H' ∧ SimH K (M.apart D) H' S2 ∧ SimE K (M.apart D) H' (wip σv own) (wipe σ own) ∧ Wk K (M.apart D) H' src J ∧
    H' D = some (SetO W D mem k) ∧ intsOf acc = some n1 ∧ (∀ j, mem j = true ↔ j ∈ n1) ∧ k = (sortS n1).length ∧ compL src.2 step (src.1.drop i) S2 = .ok rest Sg ∧ rs = acc ++ rest := ⟨_, rfl⟩
  refine ⟨fun i n H' => n = src.1.length - i ∧ Wp i H', ⟨src.1.length, by simp, ?_⟩, ?_⟩
  · rw [hWp]
    exact ⟨Nat.zero_le _, m1, S1, [], [], rs, fun _ => false, 0, rfl, Ext.refl.upd_new hD, h1.aside hD, SimE.wip (SimE.aside hD (st.e.ext x1)) own, wk.aside hD, upd_same, rfl, by simp, rfl, e1, rfl⟩
  rintro i n H' ⟨rfl, hw⟩
  rw [hWp] at hw
  obtain ⟨hi, M, S2, acc, n1, rest, mem, k, hav, ex, sh, se, wk2, hd, ra, hmem, hk, ec, er⟩ := hw
  have hDM : D ∉ M.av := by rw [hav]; exact hDm
  have hDi : D ∉ M.ix := (sh.apart D List.mem_cons_self).1
  by_cases hlt : i < src.1.length
  · right
    rw [List.drop_eq_getElem_cons hlt] at ec
    obtain ⟨hg, ov, S3, rest', e5, e6, er'⟩ := compL_cons ec
    obtain ⟨go1, go2⟩ := wk2.go sh hg (List.getElem?_eq_getElem hlt)
    refine ⟨go1, Wp (i + 1), fun H'' h => ⟨src.1.length - (i + 1), by omega, rfl, h⟩, fun v H3 y => ?_⟩
    rw [hWp]
    obtain ⟨x3, s3, r3⟩ := go2 v H3 y
    rw [hstep] at e5
    dsimp only at e5
    split at e5
    · cases e5
    rename_i σ' ea
    obtain ⟨b, S4, e7, e8⟩ := Out.bind_eq_ok e5
    refine ⟨M.apart D, _, wip σv own, σ', r3, se.ext x3, ea, fun σ2 s2 lk => ⟨wipe_like lk ht, ?_⟩⟩
    refine ⟨M.apart D, σ', S2, ⟨s3, s2⟩, ?_⟩
    rw [e7]
    refine Res.mk ?_
    intro m5 H5 x5 s5
    have st5 : SimE K m5 H5 σ' σ2 := s2.ext x5
    cases b with
    | true =>
      rw [if_pos rfl]
      obtain ⟨vv, S6, e9, e10⟩ := Out.bind_eq_ok (show (ev cl ir σ' S4).bind _ = _ from e8)
      cases e10
      refine ⟨m5, σ', S4, ⟨s5, st5⟩, ?_⟩
      rw [e9]
      refine Res.mk ?_
      intro m6 H6 u x6 s6 r6
      have x7 := (x3.trans x5).trans x6
      obtain ⟨M', rfl, hav', x8⟩ := x7.unapart
      have hd6 : H6 D = some (SetO W D mem k) := x7.keep D _ hd hDi
      have er2 : rs = (acc ++ [vv]) ++ rest' := by rw [er, er', List.append_assoc]; rfl
      obtain ⟨n3, n4, f1, f2, f3⟩ := ints_split (a := acc ++ [vv]) (b := rest') (by rw [← er2]; exact e3')
      obtain ⟨n5, n6, g1, g2, g3⟩ := ints_split f1
      rw [ra] at g1
      cases g1
      obtain ⟨c, rfl, rfl⟩ : ∃ c, vv = .int c ∧ n6 = [c] := by
        cases vv <;> simp [intsOf, mapO, intOf] at g2
        exact ⟨_, rfl, g2.symm⟩
      cases r6
      have mono := sortS_mono (l := n3) (r := n4)
      rw [← f3, g3] at mono
      obtain ⟨sn1, sn2⟩ := sortS_snoc (c := c) (l := n1)
      have hcm : mem c = true ↔ c ∈ n1 := hmem c
      have hkk : (if mem c = true then k else k + 1) = (sortS (n1 ++ [c])).length := by
        split
        · rename_i h; rw [sn1 (hcm.mp h), hk]
        · rename_i h; rw [sn2 (fun z => h (hcm.mpr z)), hk]
      have hle : k ≤ (sortS (n1 ++ [c])).length := by
        rw [← hkk]
        split <;> omega
      refine ⟨c, mem, k, rfl, hd6, by omega, hlt, M', S3, acc ++ [.int c], n1 ++ [c], rest', _, _, hav'.trans hav, (ex.trans x8).upd_new hD, s6.put, (se.ext x7).put, (wk2.ext x7).put, upd_same, by rw [← g3]; exact f1, fun j => ?_, hkk, e6, er2⟩
      rw [Bool.or_eq_true, hmem, List.mem_append, List.mem_singleton, decide_eq_true_eq]
    | false =>
      rw [if_neg (by decide)]
      have e13 : Out.ok (none : Option VV) S4 = .ok ov S3 := e8
      cases e13
      have x7 := x3.trans x5
      obtain ⟨M', rfl, hav', x8⟩ := x7.unapart
      exact ⟨hlt, M', S3, acc, n1, rest', mem, k, hav'.trans hav, ex.trans x8, s5, se.ext x7, wk2.ext x7, x7.keep D _ hd hDi, ra, hmem, hk, e6, by rw [er, er']; rfl⟩
  · left
    have hi' : src.1.length ≤ i := by omega
    rw [List.drop_eq_nil_of_le hi'] at ec
    have hg : gokB S2 src.2 = true ∧ Out.ok ([] : List VV) S2 = .ok rest Sg := by
      unfold compL at ec
      split at ec
      · exact ⟨by assumption, ec⟩
      · cases ec
    obtain ⟨hg, ec⟩ := hg
    cases ec
    refine ⟨wk2.stop sh hg hi', ?_⟩
    rw [List.append_nil] at er
    subst er
    rw [ra] at e3'
    cases e3'
    refine ⟨D, mem, k, rfl, hd, by rw [hk]; exact h64, fun ms P hs hm hl hP => ?_⟩
    have em : ms = sortS ns := sortedS_uniq hs sortS_sorted fun j => by rw [hm, hmem, sortS_mem]
    subst em
    have xM := x1.trans ex
    have p := p.ext xM
    obtain ⟨_, kk⟩ := post_mkL (K := K) (m := M) (H := H') sh.back Rs.of_ints e4 p
    exact kk P hP
end
end Tw
set_option Elab.async false
set_option linter.all false
set_option autoImplicit false
set_option maxRecDepth 100000
namespace Tw
open PySem PySem.Spec PyProof.Rows L2
theorem compLL_cons {g : List (Nat × List VV)} {step : VV → Hs → Out (List VV)} {x : VV} {xs : List VV} {s S' : Hs} {r : List VV} (h : compLL g step (x :: xs) s = .ok r S') :
    gokB s g = true ∧ ∃ o s1 r', step x s = .ok o s1 ∧ compLL g step xs s1 = .ok r' S' ∧ r = o ++ r' := by
  unfold compLL at h
  split at h
  · rename_i hg
    obtain ⟨o, s1, e1, h⟩ := Out.bind_eq_ok h
    obtain ⟨r', s2, e2, h⟩ := Out.bind_eq_ok h
    cases h
    exact ⟨hg, o, s1, r', e1, e2, rfl⟩
  · cases h
section
variable {K : PySem.W.Frag} {w w0 : Wish} {cl : Cl}
theorem lc2_rd {d : Bool} {ir : Ex} {t t2 : Tg} {it it2 : It} {cs cs2 : List Ex} {own : List Nat} (ht : ∀ i ∈ tvs t, i ∈ own) (ht2 : ∀ i ∈ tvs t2, i ∈ own) {σ : L2.St} {H0 : Hp} {Q : VK} (q : rdE K w (ev cl (.comp2 d ir t it cs t2 it2 cs2 (tvs t2) own)) σ H0 Q) :
    tLc2 (rdI K w (evIt cl it)) (rdG K t) (rdT K w0 (evC cl cs)) (rdI K w0 (evIt cl it2)) (rdG K t2) (rdT K w0 (evC cl cs2)) (rdE K w0 (ev cl ir)) own (tvs t2) σ H0 Q := by
  obtain ⟨m, σv, S, st, q⟩ := q
  obtain ⟨step2, hstep2⟩ : ∃ step2 : Sv → VV → Hs → Out (Option VV), step2 = fun σ1 y s => match asg t2 y (wip σ1 (tvs t2)) with
        | none => .bad
        | some σ2 => (evC cl cs2 σ2 s).bind fun b s => if b then (ev cl ir σ2 s).bind fun v s => .ok (some v) s else .ok none s := ⟨_, rfl⟩
  obtain ⟨step, hstep⟩ : ∃ step : VV → Hs → Out (List VV), step = fun x s => match asg t x (wip σv own) with
        | none => .bad
        | some σ1 => (evC cl cs σ1 s).bind fun b s => if b then (evIt cl it2 σ1 s).bind fun r2 s => compL r2.2 (step2 σ1) r2.1 s else .ok [] s := ⟨_, rfl⟩
  have q : Res K w m H0 σ ((evIt cl it σv S).bind fun r s => (noX (compLL r.2 step r.1 s)).bind fun vs s => mkL d vs s) fun x S' => Post K m H0 x S' Q := by
    rw [hstep, hstep2]; exact q
  refine ⟨m, σv, S, st, q.bind.imp fun src S1 q1 m1 H1 J x1 h1 wk D hD => ?_⟩
  obtain ⟨x, S', e, p⟩ := q1.ok (bind_noX (noX_noX _) fun x s v s' => mkL_noX _ _ _ _ _)
  obtain ⟨rs, Sf, e1, e2⟩ := Out.bind_eq_ok e
  have e1 := noX_eq e1
  have hlen : rs.length ≤ szL := by
    unfold mkL at e2
    split at e2
    · assumption
    · cases e2
  have hDm : D ∉ m1.av := fun z => (h1.apart D z).2 hD
  obtain ⟨Wp, hWp⟩ : ∃ Wp : Nat → Hp → Prop, Wp = fun i H' => i ≤ src.1.length ∧ ∃ M S2 acc accV rest, M.av = m1.av ∧ Ext m1 H1 M H' ∧ SimH K (M.apart D) H' S2 ∧ SimE K (M.apart D) H' (wip σv own) (wipe σ own) ∧ Wk K (M.apart D) H' src J ∧
    H' D = some (.lst accV) ∧ Rs K (M.apart D) H' acc accV ∧ compLL src.2 step (src.1.drop i) S2 = .ok rest Sf ∧ rs = acc ++ rest := ⟨_, rfl⟩
  refine ⟨fun i n H' => n = src.1.length - i ∧ Wp i H', ⟨src.1.length, by simp, ?_⟩, ?_⟩
  · rw [hWp]
    exact ⟨Nat.zero_le _, m1, S1, [], [], rs, rfl, Ext.refl.upd_new hD, h1.aside hD, SimE.wip (SimE.aside hD (st.e.ext x1)) own, wk.aside hD, upd_same, .nil, e1, rfl⟩
  rintro i n H' ⟨rfl, hw⟩
  rw [hWp] at hw
  obtain ⟨hi, M, S2, acc, accV, rest, hav, ex, sh, se, wk2, hd, ra, ec, er⟩ := hw
  have hDM : D ∉ M.av := by rw [hav]; exact hDm
  have hDi : D ∉ M.ix := (sh.apart D List.mem_cons_self).1
  by_cases hlt : i < src.1.length
  · right
    rw [List.drop_eq_getElem_cons hlt] at ec
    obtain ⟨hg, ov, S3, rest', e3, e4, er'⟩ := compLL_cons ec
    obtain ⟨go1, go2⟩ := wk2.go sh hg (List.getElem?_eq_getElem hlt)
    refine ⟨go1, Wp (i + 1), fun H'' h => ⟨src.1.length - (i + 1), by omega, rfl, h⟩, fun v H3 y => ?_⟩
    obtain ⟨x3, s3, r3⟩ := go2 v H3 y
    rw [hstep] at e3
    dsimp only at e3
    split at e3
    · cases e3
    rename_i σ' ea
    obtain ⟨b, S4, e5, e6⟩ := Out.bind_eq_ok e3
    refine ⟨M.apart D, _, wip σv own, σ', r3, se.ext x3, ea, fun σ2 s2 lk => ⟨wipe_like lk ht, ?_⟩⟩
    refine ⟨M.apart D, σ', S2, ⟨s3, s2⟩, ?_⟩
    rw [e5]
    refine Res.mk ?_
    intro m5 H5 x5 s5
    have st5 : SimE K m5 H5 σ' σ2 := s2.ext x5
    cases b with
    | true =>
      rw [if_pos rfl]
      obtain ⟨src2, S6, e7, e8⟩ := Out.bind_eq_ok (show (evIt cl it2 σ' S4).bind _ = _ from e6)
      refine ⟨m5, σ', S4, ⟨s5, st5⟩, ?_⟩
      rw [e7]
      refine Res.mk ?_
      intro m6 H6 J1 x6 s6 wk6
      have x7 := (x3.trans x5).trans x6
      obtain ⟨M', rfl, hav', x8⟩ := x7.unapart
      obtain ⟨W1p, hW1⟩ : ∃ W1p : Nat → Hp → Prop, W1p = fun j H'' => j ≤ src2.1.length ∧ ∃ N S7 acc2 accV2 rest2, N.av = m1.av ∧ Ext m1 H1 N H'' ∧ SimH K (N.apart D) H'' S7 ∧ SimE K (N.apart D) H'' (wip σ' (tvs t2)) (wipe σ2 (tvs t2)) ∧ SimE K (N.apart D) H'' (wip σv own) (wipe σ own) ∧ Wk K (N.apart D) H'' src J ∧ Wk K (N.apart D) H'' src2 J1 ∧
        H'' D = some (.lst accV2) ∧ Rs K (N.apart D) H'' acc2 accV2 ∧ compL src2.2 (step2 σ') (src2.1.drop j) S7 = .ok rest2 S3 ∧ rs = acc2 ++ rest2 ++ rest' := ⟨_, rfl⟩
      refine ⟨fun j n H'' => n = src2.1.length - j ∧ W1p j H'', ⟨src2.1.length, by simp, ?_⟩, ?_⟩
      · rw [hW1]
        refine ⟨Nat.zero_le _, M', S6, acc, accV, ov, hav'.trans hav, ex.trans x8, s6, SimE.wip (st5.ext x6) (tvs t2), se.ext x7, wk2.ext x7, wk6, x7.keep D _ hd hDi, ra.ext x7, e8, ?_⟩
        rw [er, er', List.append_assoc]
      rintro j n H7 ⟨rfl, hw1⟩
      rw [hW1] at hw1
      obtain ⟨hj, N, S7, acc2, accV2, rest2, hav2, ex2, sh2, se2, seo, wko, wki, hd2, ra2, ec2, er2⟩ := hw1
      have hDM2 : D ∉ N.av := by rw [hav2]; exact hDm
      have hDi2 : D ∉ N.ix := (sh2.apart D List.mem_cons_self).1
      by_cases hlt2 : j < src2.1.length
      · right
        rw [List.drop_eq_getElem_cons hlt2] at ec2
        obtain ⟨hg2, ov2, S8, rest3, e9, e10, er3⟩ := compL_cons ec2
        obtain ⟨go3, go4⟩ := wki.go sh2 hg2 (List.getElem?_eq_getElem hlt2)
        refine ⟨go3, W1p (j + 1), fun H'' h => ⟨src2.1.length - (j + 1), by omega, rfl, h⟩, fun v2 H8 y2 => ?_⟩
        rw [hW1]
        obtain ⟨x9, s9, r9⟩ := go4 v2 H8 y2
        rw [hstep2] at e9
        dsimp only at e9
        split at e9
        · cases e9
        rename_i σ3 ea3
        obtain ⟨b2, S10, e11, e12⟩ := Out.bind_eq_ok e9
        refine ⟨N.apart D, _, wip σ' (tvs t2), σ3, r9, se2.ext x9, ea3, fun σ4 s4 lk4 => ⟨wipe_like lk4 (fun i h => h), ?_⟩⟩
        refine ⟨N.apart D, σ3, S7, ⟨s9, s4⟩, ?_⟩
        rw [e11]
        refine Res.mk ?_
        intro m11 H11 x11 s11
        have st11 : SimE K m11 H11 σ3 σ4 := s4.ext x11
        cases b2 with
        | true =>
          rw [if_pos rfl]
          obtain ⟨vv, S12, e13, e14⟩ := Out.bind_eq_ok (show (ev cl ir σ3 S10).bind _ = _ from e12)
          cases e14
          refine ⟨m11, σ3, S10, ⟨s11, st11⟩, ?_⟩
          rw [e13]
          refine Res.mk ?_
          intro m12 H12 u x12 s12 r12
          have x13 := (x9.trans x11).trans x12
          obtain ⟨N', rfl, hav3, x14⟩ := x13.unapart
          have hd6 : H12 D = some (.lst accV2) := x13.keep D _ hd2 hDi2
          have er4 : rs = (acc2 ++ [vv]) ++ rest3 ++ rest' := by rw [er2, er3]; simp
          refine ⟨accV2, hd6, ?_, ?_⟩
          · have l1 := ra2.length
            have l2 : rs.length = acc2.length + 1 + rest3.length + rest'.length := by rw [er4, List.length_append, List.length_append, List.length_append, List.length_singleton]
            show accV2.length < sizeLine
            have : szL = sizeLine := rfl
            omega
          · exact ⟨hlt2, N', S8, acc2 ++ [vv], accV2 ++ [u], rest3, hav3.trans hav2, (ex2.trans x14).upd_new hD, s12.put, (se2.ext x13).put, (seo.ext x13).put, (wko.ext x13).put, (wki.ext x13).put, upd_same, ((ra2.ext x13).append (.cons r12 .nil)).put, e10, er4⟩
        | false =>
          rw [if_neg (by decide)]
          have e14 : Out.ok (none : Option VV) S10 = .ok ov2 S8 := e12
          cases e14
          have x13 := x9.trans x11
          obtain ⟨N', rfl, hav3, x14⟩ := x13.unapart
          exact ⟨hlt2, N', S8, acc2, accV2, rest3, hav3.trans hav2, ex2.trans x14, s11, se2.ext x13, seo.ext x13, wko.ext x13, wki.ext x13, x13.keep D _ hd2 hDi2, ra2.ext x13, e10, by rw [er2, er3]; simp⟩
      · left
        have hj' : src2.1.length ≤ j := by omega
        rw [List.drop_eq_nil_of_le hj'] at ec2
        have hg : gokB S7 src2.2 = true ∧ Out.ok ([] : List VV) S7 = .ok rest2 S3 := by
          unfold compL at ec2
          split at ec2
          · exact ⟨by assumption, ec2⟩
          · cases ec2
        obtain ⟨hg, ec2⟩ := hg
        cases ec2
        refine ⟨wki.stop sh2 hg hj', ?_⟩
        rw [hWp]
        exact ⟨hlt, N, _, acc2, accV2, rest', hav2, ex2, sh2, seo, wko, hd2, ra2, e4, by rw [er2]; simp⟩
    | false =>
      rw [if_neg (by decide)]
      have e8 : Out.ok ([] : List VV) S4 = .ok ov S3 := e6
      cases e8
      have x7 := x3.trans x5
      obtain ⟨M', rfl, hav', x8⟩ := x7.unapart
      rw [hWp]
      exact ⟨hlt, M', S3, acc, accV, rest', hav'.trans hav, ex.trans x8, s5, se.ext x7, wk2.ext x7, x7.keep D _ hd hDi, ra.ext x7, e4, by rw [er, er']; rfl⟩
  · left
    have hi' : src.1.length ≤ i := by omega
    rw [List.drop_eq_nil_of_le hi'] at ec
    have hg : gokB S2 src.2 = true ∧ Out.ok ([] : List VV) S2 = .ok rest Sf := by
      unfold compLL at ec
      split at ec
      · exact ⟨by assumption, ec⟩
      · cases ec
    obtain ⟨hg, ec⟩ := hg
    cases ec
    refine ⟨wk2.stop sh hg hi', ?_⟩
    rw [List.append_nil] at er
    subst er
    unfold mkL at e2
    rw [if_pos hlen] at e2
    cases d with
    | true =>
      cases e2
      refine p (M.push D) H' _ (x1.trans (ex.adopt hD)) (sh.adopt hd hDM ra) (.ref ?_)
      · show (M.ix ++ [D])[_]? = some D
        rw [← show M.ix.length = _ from sh.len]
        simp
    | false =>
      cases e2
      exact p M H' _ (x1.trans ex) sh.back (.lst ⟨hd, hDi, hDM⟩ ra.back)
end
end Tw
set_option Elab.async false
set_option linter.all false
set_option autoImplicit false
set_option maxRecDepth 100000
namespace Tw
open PySem PySem.Spec PyProof.Rows L2
section
variable {X : Cx} {w : Wish} {cl : Cl}
abbrev Wish.shut (w : Wish) : Wish := ⟨fun _ _ _ _ => False, w.rx⟩
def STs (X : Cx) (w : Wish) (cl : Cl) (es : List Expr) (irs : List Ex) : Prop := PTs X es (rdT X.K w (evC cl irs))
theorem sts_nil : STs X w cl [] [] := ⟨fun pins s σ H Q I ⟨m, σv, S, st, q⟩ => pts_nil.run pins s σ H Q I (by
  have q : PostB X.K m H true S Q := q
  exact q m H Ext.refl st.h)⟩
theorem sts_one {e : Expr} {ir : Ex} (h : SB X w cl e ir) : STs X w cl [e] [ir] := ⟨fun pins s σ H Q I ⟨m, σv, S, st, q⟩ => (pts_one h.t).run pins s σ H Q I ⟨m, σv, S, st, by
  have q : Res X.K w m H σ ((ev cl ir σv S).bind fun v s => (lift (trV s v) s).bind fun t s => if t then Out.ok true s else .ok false s) fun x S' => PostB X.K m H x S' Q := q
  show Res X.K w m H σ ((ev cl ir σv S).bind fun v s => lift (trV s v) s) _
  refine Res.of_bind (q.bind.imp fun v S1 q1 => ?_)
  cases e : trV S1 v with
  | none => rw [e] at q1; exact q1.elim
  | some b =>
    rw [e] at q1
    cases b <;> exact q1⟩⟩
def notSet : Expr → Bool
  | .Set .. => false
  | _ => true
theorem notSet_ok {e : Expr} (h : notSet e = true) (env : Env) (x : Value) : foldedSetIterable e env x = pure x := by
  cases e <;> first | rfl | cases h
theorem se_comp {elt tg iter : Expr} {ifs : List Expr} {scope : Scope} {own : List (Str × Nat)} {pos : Pos} {d : Bool} {ir : Ex} {t : Tg} {it : It} {cs : List Ex} (hc : X.calm = true) (hN : X.N.Nodup) (hi : SI X w cl tg iter it) (hs : notSet iter = true) (ok : BlkOk X.N X.env.scope scope own) (ht : ∀ i ∈ tvs t, i ∈ own.map (·.2))
    (hb : ∀ (s : Shared) (H : Hp) (C : Addr) (cell : List (Str × Addr)) (fp : List Addr), PG (X.blk s H scope (compEnvC scope cell C X.env) fp) tg (rdG X.K t) ∧ STs (X.blk s H scope (compEnvC scope cell C X.env) fp) w.shut cl ifs cs ∧ SE (X.blk s H scope (compEnvC scope cell C X.env) fp) w.shut cl elt ir) :
    SB X w cl (.ListComp elt [⟨tg, iter, ifs, 0⟩] scope pos) (.comp d ir t it cs (own.map (·.2))) :=
  sb_of (PE.imp (pe_lc (g := rdG X.K t) (tt := rdT X.K w.shut (evC cl cs)) (te := rdE X.K w.shut (ev cl ir)) hc hN hi ok (fun s H C c fp => (hb s H C c fp).1) (fun s H C c fp => (hb s H C c fp).2.1) (fun s H C c fp => (hb s H C c fp).2.2) fun x => notSet_ok hs _ x) fun σ H Q q => lc_rd ht q) fun _ => rfl
theorem se_dcomp {kx vx tg iter : Expr} {ifs : List Expr} {scope : Scope} {own : List (Str × Nat)} {pos : Pos} {d t : Bool} {ik iv : Ex} {ti : Tg} {it : It} {cs : List Ex} (hu : X.A.units + 65 < cLine) (hc : X.calm = true) (hN : X.N.Nodup) (hi : SI X w cl tg iter it) (hs : notSet iter = true) (ok : BlkOk X.N X.env.scope scope own) (ht : ∀ i ∈ tvs ti, i ∈ own.map (·.2))
    (hb : ∀ (s : Shared) (H : Hp) (C : Addr) (cell : List (Str × Addr)) (fp : List Addr), PG (X.blk s H scope (compEnvC scope cell C X.env) fp) tg (rdG X.K ti) ∧ STs (X.blk s H scope (compEnvC scope cell C X.env) fp) w.shut cl ifs cs ∧ SE (X.blk s H scope (compEnvC scope cell C X.env) fp) w.shut cl kx ik ∧ SE (X.blk s H scope (compEnvC scope cell C X.env) fp) w.shut cl vx iv) :
    SB X w cl (.DictComp kx vx [⟨tg, iter, ifs, 0⟩] scope pos) (.dcomp d t ik iv ti it cs (own.map (·.2))) := by
  cases t with
  | true => exact sb_of (PE.imp (pe_nc (g := rdG X.K ti) (tt := rdT X.K w.shut (evC cl cs)) (tk := rdE X.K w.shut (ev cl ik)) (tv := rdE X.K w.shut (ev cl iv)) hu hc hN hi ok (fun s H C c fp => (hb s H C c fp).1) (fun s H C c fp => (hb s H C c fp).2.1) (fun s H C c fp => (hb s H C c fp).2.2.1) (fun s H C c fp => (hb s H C c fp).2.2.2) fun x => notSet_ok hs _ x) fun σ H Q q => dc_rd ht q) fun _ => rfl
  | false => exact sb_of (PE.imp (pe_dc (g := rdG X.K ti) (tt := rdT X.K w.shut (evC cl cs)) (tk := rdE X.K w.shut (ev cl ik)) (tv := rdE X.K w.shut (ev cl iv)) hc hN hi ok (fun s H C c fp => (hb s H C c fp).1) (fun s H C c fp => (hb s H C c fp).2.1) (fun s H C c fp => (hb s H C c fp).2.2.1) (fun s H C c fp => (hb s H C c fp).2.2.2) fun x => notSet_ok hs _ x) fun σ H Q q => dc_rd ht q) fun _ => rfl
theorem se_sset {elt tg iter : Expr} {ifs : List Expr} {scope : Scope} {own : List (Str × Nat)} {p pos pos' : Pos} {d : Bool} {ir : Ex} {ti : Tg} {it : It} {cs : List Ex} (hg : Gl X "sorted") (hm : X.mg "sorted" = none) (hc : X.calm = true) (hN : X.N.Nodup) (hi : SI X w cl tg iter it) (hs : notSet iter = true) (ok : BlkOk X.N X.env.scope scope own) (ht : ∀ i ∈ tvs ti, i ∈ own.map (·.2))
    (hb : ∀ (s : Shared) (H : Hp) (C : Addr) (cell : List (Str × Addr)) (fp : List Addr), PG (X.blk s H scope (compEnvC scope cell C X.env) fp) tg (rdG X.K ti) ∧ STs (X.blk s H scope (compEnvC scope cell C X.env) fp) w.shut cl ifs cs ∧ SE (X.blk s H scope (compEnvC scope cell C X.env) fp) w.shut cl elt ir) :
    SB X w cl (.Call (.Name "sorted" p) [.SetComp elt [⟨tg, iter, ifs, 0⟩] scope pos] [] pos') (.scomp d ir ti it cs (own.map (·.2))) :=
  sb_of (PE.imp (pe_callB (cr_sortedSet hc) hg hm (by decide +kernel) (pa_cons (pe_si (g := rdG X.K ti) (tt := rdT X.K w.shut (evC cl cs)) (te := rdE X.K w.shut (ev cl ir)) hc hN hi ok (fun s H C c fp => (hb s H C c fp).1) (fun s H C c fp => (hb s H C c fp).2.1) (fun s H C c fp => (hb s H C c fp).2.2) fun x => notSet_ok hs _ x) pa_nil)) fun σ H Q q => sc_rd X.w ht q) fun _ => rfl
theorem se_get {o e f : Expr} {io ie jf : Ex} {apos cpos : Pos} (hu : X.A.units + 65 < cLine) (ho : SE X w cl o io) (he : SE X w cl e ie) (hf : SE X w cl f jf) (hn : notStar e = true) (hn2 : notStar f = true) (hbase : okBase o = true) (hline : (apos.endLine == cpos.line) = true) :
    SB X w cl (.Call (.Attribute o "get" apos) [e, f] [] cpos) (.bm .get io [ie, jf]) := by
  refine sb_of (PE.imp (pe_getX hu ho he hf ⟨base_ok hbase, few_ok (by simpa using ⟨hn, hn2⟩) (Nat.lt_of_lt_of_le (Nat.lt_succ_self 2) (by decide : 3 ≤ 30)), hline, by rw [star_cons hn, star_cons hn2]; rfl⟩) fun σ H Q ⟨m, σv, S, s, q⟩ => ?_) fun _ => rfl
  have q : Res X.K w m H σ ((ev cl io σv S).bind fun v s => (lift (bmTy .get v s) s).bind fun _ s => (evs cl [ie, jf] σv s).bind fun vs s => bmV .get v vs s) fun x S' => Post X.K m H x S' Q := q
  refine rd_then s (q.bind.imp fun x S1 q1 m1 H1 v x1 s1 r1 => ?_)
  obtain ⟨u, S2, e1, q2⟩ := q1.bind.ok (lift_noX _ _)
  obtain ⟨e2, rfl⟩ := lift_eq_ok e1
  obtain ⟨⟨t, kvs⟩, e3, _⟩ := Option.map_eq_some_iff.mp (show (dctOf S2 x).map (fun _ => ()) = some u from e2)
  obtain ⟨a, ob, xs, rfl, h1, h2, h3⟩ := dct_rd s1.h r1 e3
  have isx : IsX X.K H1 a := by
    rcases h2 with ⟨rfl, ps, rfl, rfl⟩ | ⟨rfl, ps, rfl, rfl⟩
    · exact .inl (.inl ⟨_, .inl h1⟩)
    · exact .inr ⟨ps, h1, h3.keys⟩
  refine ⟨a, rfl, isx, ?_⟩
  have q3 : Res X.K w m H σ (((ev cl ie σv S2).bind fun y s => (ev cl jf σv s).bind fun z s => (Out.ok [z] s).bind fun vs s => .ok (y :: vs) s).bind fun vs s => bmV .get x vs s) fun x S' => Post X.K m H x S' Q := by
    have e0 : (evs cl [ie, jf] σv S2) = (ev cl ie σv S2).bind fun y s => (ev cl jf σv s).bind fun z s => (Out.ok [z] s).bind fun vs s => .ok (y :: vs) s := by
      show (ev cl ie σv S2).bind (fun y s => ((ev cl jf σv s).bind fun z s => (Out.ok [] s).bind fun vs s => .ok (z :: vs) s).bind fun vs s => .ok (y :: vs) s) = _
      congr 1
      funext y s
      rw [Out.bind_assoc]
      rfl
    rw [← e0]
    exact q2
  rw [Out.bind_assoc] at q3
  refine rd_then s1 ((q3.bind.ext x1).imp fun y S3 q4 m2 H2 wk x2 s2 r2 => ?_)
  rw [Out.bind_assoc] at q4
  refine rd_then s2 (((q4.bind.ext x1).ext x2).imp fun z S4 q5 m3 H3 wz x3 s3 r3 => ?_)
  obtain ⟨zz, S', e5, p⟩ := Res.ok (show Res X.K w m H σ (bmV .get x [y, z] S4) _ from q5) (bmV_noX _ _ _ _)
  have e5 : (match getDV S4 x y with
    | some o => Out.ok (o.getD z) S4
    | none => .bad) = .ok zz S' := e5
  split at e5
  · rename_i o eo
    cases e5
    obtain ⟨a', r, ea, g1, g2⟩ := get_rd s3.h ((r1.ext x2).ext x3) (r2.ext x3) eo
    cases ea
    refine ⟨r, g1, ?_⟩
    cases o with
    | none =>
      cases r with
      | none => exact p m3 H3 _ (((x1.trans x2).trans x3)) s3.h r3
      | some _ => exact g2.elim
    | some vv =>
      cases r with
      | none => exact g2.elim
      | some _ => exact p m3 H3 _ (((x1.trans x2).trans x3)) s3.h g2
  · cases e5
def PF (K : PySem.W.Frag) (w : Wish) (m : Mp) (H : Hp) (D : Ends) (r : Fl) (S' : Hs) : Prop := match r with
  | .nx σv' => ∀ m' H' σ', Ext m H m' H' → Sit K m' σv' S' σ' H' → D.nx σ' H'
  | .ct σv' => ∀ m' H' σ', Ext m H m' H' → Sit K m' σv' S' σ' H' → D.ct σ' H'
  | .bk σv' => ∀ m' H' σ', Ext m H m' H' → Sit K m' σv' S' σ' H' → D.bk σ' H'
  | .rt v => ∀ m' H' u, Ext m H m' H' → SimH K m' H' S' → R K m' H' v u → D.rt u H'
  | .xc v σv' => ∀ m' H' σ' c d, Ext m H m' H' → Sit K m' σv' S' σ' H' → w.rx m' H' v c d → w.W c d σ' H'
theorem PF.ext {K : PySem.W.Frag} {m m1 : Mp} {H H1 : Hp} {D : Ends} {r : Fl} {S' : Hs} (e : Ext m H m1 H1) (p : PF K w m H D r S') : PF K w m1 H1 D r S' := by
  cases r with
  | nx σv => exact fun m' H' σ' e' => p m' H' σ' (e.trans e')
  | ct σv => exact fun m' H' σ' e' => p m' H' σ' (e.trans e')
  | bk σv => exact fun m' H' σ' e' => p m' H' σ' (e.trans e')
  | rt v => exact fun m' H' σ' e' => p m' H' σ' (e.trans e')
  | xc v σv => exact fun m' H' σ' c d e' => p m' H' σ' c d (e.trans e')
def rdS (K : PySem.W.Frag) (w : Wish) (f : Sv → Hs → Out Fl) : TS := fun D σ H => ∃ m σv S r S', Sit K m σv S σ H ∧ f σv S = .ok r S' ∧ PF K w m H D r S'
def SS (X : Cx) (w : Wish) (cl : Cl) (sts : List Stmt) (irs : List Stm) : Prop := PSs X sts (rdS X.K w (exs cl irs))
def S1 (X : Cx) (w : Wish) (cl : Cl) (st : Stmt) (ir : Stm) : Prop := PS X st (rdS X.K w (exe cl ir))
theorem PS.imp {st : Stmt} {t t' : TS} (h : PS X st t) (i : ∀ D σ H, t' D σ H → t D σ H) : PS X st t' := ⟨fun pins s σ H D I q => h.run pins s σ H D I (i D σ H q)⟩
theorem PSs.imp {st : List Stmt} {t t' : TS} (h : PSs X st t) (i : ∀ D σ H, t' D σ H → t D σ H) : PSs X st t' := ⟨fun pins s σ H D I q => h.run pins s σ H D I (i D σ H q)⟩
theorem cat_ok {α : Type} {K : PySem.W.Frag} {m : Mp} {σv : Sv} {S S' : Hs} {σ : L2.St} {H : Hp} {D : Ends} {o : Out α} {g : α → Hs → Out Fl} {r : Fl} (e : cat σv (o.bind g) = .ok r S') (st : Sit K m σv S σ H) (p : PF K w m H D r S') :
    Res K w m H σ o fun x S1 => cat σv (g x S1) = .ok r S' := by
  cases o with
  | ok x S1 => exact e
  | bad => cases e
  | exc v S1 =>
    cases e
    exact fun m' H' c d e' h r => p m' H' σ c d e' ⟨h, st.e.ext e'⟩ r
theorem cat_eq {α : Type} {σv : Sv} {o : Option α} {S S' : Hs} {g : α → Hs → Out Fl} {r : Fl} (e : cat σv ((lift o S).bind g) = .ok r S') : ∃ a, o = some a ∧ cat σv (g a S) = .ok r S' := by
  cases o with
  | none => cases e
  | some a => exact ⟨a, rfl, e⟩
theorem cat_in {σv : Sv} {o : Out Fl} {r : Fl} {S' : Hs} (n : ∀ v s, o ≠ .exc v s) (e : cat σv o = .ok r S') : o = .ok r S' := by
  cases o with
  | ok x S1 => exact e
  | bad => cases e
  | exc v S1 => exact absurd rfl (n v S1)
theorem cat_noX (σv : Sv) (o : Out Fl) (v : VV) (s : Hs) : cat σv o ≠ .exc v s := by
  intro h
  cases o <;> cases h
theorem whileL_noX (t : Sv → Hs → Out Bool) (f : Sv → Hs → Out Fl) (n : Nat) (σ : Sv) (s : Hs) (v : VV) (s' : Hs) : whileL t f n σ s ≠ .exc v s' := by
  cases n with
  | zero => intro h; cases h
  | succ n => exact cat_noX _ _ _ _
theorem tryF_noX (cs : List String) (i j : Nat) (f : Fl) (s : Hs) (v : VV) (s' : Hs) : tryF cs i j f s ≠ .exc v s' := by
  unfold tryF
  repeat' split
  all_goals (intro h; cases h)
theorem tryNF_noX (c : String) (j : Nat) (f : Fl) (s : Hs) (v : VV) (s' : Hs) : tryNF c j f s ≠ .exc v s' := by
  unfold tryNF
  repeat' split
  all_goals (intro h; cases h)
theorem exe_noX (st : Stm) (σ : Sv) (s : Hs) (v : VV) (s' : Hs) : exe cl st σ s ≠ .exc v s' := by
  cases st with
  | aug i o e =>
    show (match σ[i]? with
      | some (some x) => cat σ _
      | _ => Out.bad) ≠ _
    split
    · exact cat_noX _ _ _ _
    · intro h; cases h
  | whl c b =>
    show whileL (fun σ s => (ev cl c σ s).bind fun x s => lift (trV s x) s) (fun σ s => exs cl b σ s) wfuel σ s ≠ .exc v s'
    exact whileL_noX _ _ _ _ _ _ _
  | lockS x b =>
    show (match lckV x σ s with
      | some (k, t, kvs) => (noX (exe cl b σ (s.set k (.lck t kvs)))).bind fun f s => unlF f (s.set k (.dct t kvs))
      | none => Out.bad) ≠ _
    split
    · exact bind_noX (noX_noX _) (fun f s v s' => by
        unfold unlF
        split <;> (intro h; cases h)) v s'
    · intro h; cases h
  | tryk b cs i j => exact bind_noX (noX_noX _) (fun f s v s' => tryF_noX _ _ _ _ _ _ _) v s'
  | tryn b c j => exact bind_noX (noX_noX _) (fun f s v s' => tryNF_noX _ _ _ _ _ _) v s'
  | brk => intro h; cases h
  | cnt => intro h; cases h
  | pss => intro h; cases h
  | never => intro h; cases h
  | _ => exact cat_noX _ _ _ _
theorem exs_noX : ∀ (sts : List Stm) (σ : Sv) (s : Hs) (v : VV) (s' : Hs), exs cl sts σ s ≠ .exc v s'
  | [], _, _, _, _, h => by cases h
  | st :: r, σ, s, v, s', h => bind_noX (g := fun f s => match f with
    | .nx σ => exs cl r σ s
    | f => .ok f s) (o := exe cl st σ s) (exe_noX st σ s) (fun f s1 v1 s2 h1 => by
      cases f with
      | nx σ1 => exact exs_noX r σ1 s1 v1 s2 h1
      | _ => cases h1) v s' h
theorem ss_nil : SS X w cl [] [] := PSs.imp pss_nil fun D σ H ⟨m, σv, S, r, S', st, e, p⟩ => by
  cases e
  exact p m H σ Ext.refl st
theorem ss_cons {st : Stmt} {sts : List Stmt} {ir : Stm} {irs : List Stm} (h : S1 X w cl st ir) (t : SS X w cl sts irs) : SS X w cl (st :: sts) (ir :: irs) :=
  PSs.imp (pss_cons h t) fun D σ H ⟨m, σv, S, r, S', s, e, p⟩ => by
    obtain ⟨f, S2, e1, e2⟩ := Out.bind_eq_ok (show (exe cl ir σv S).bind _ = _ from e)
    refine ⟨m, σv, S, f, S2, s, e1, ?_⟩
    cases f with
    | nx σ1 => exact fun m' H' σ' x s' => ⟨m', σ1, S2, r, S', s', e2, p.ext x⟩
    | ct σ1 => cases e2; exact p
    | bk σ1 => cases e2; exact p
    | rt v => cases e2; exact p
    | xc v σ1 => cases e2; exact p
theorem ss_doc {x j pos pos'} {sts : List Stmt} {irs : List Stm} (t : SS X w cl sts irs) : SS X w cl (.Expr (.Constant (.str x) j pos) pos' :: sts) irs :=
  PSs.imp (pss_cons ps_doc t) fun D σ H q => q
theorem s1_asg {tg e : Expr} {ir : Ex} {t : Tg} {pos : Pos} {sc : Shared} (he : SE X w cl e ir) (hg : PG X tg (rdG X.K t)) (hs : swapsWithSole [tg] e pos.line X.env = pure false) (hw : swappedStores [tg] e X.env = pure none)
    (h1 : (assignEach [tg] X.env).map (·.2) = [assign tg X.env]) : S1 X w cl (.Assign [tg] e pos) (.asg t ir) :=
  PS.imp (ps_asg he hg hs hw h1) fun D σ H ⟨m, σv, S, r, S', s, e1, p⟩ => by
    have e1 : cat σv ((ev cl ir σv S).bind fun v s => lift ((asg t v σv).map Fl.nx) s) = .ok r S' := e1
    refine rd_then s ((cat_ok e1 s p).imp fun v Sa e2 m1 H1 u x1 s1 r1 => ?_)
    have e3 := cat_in (lift_noX _ _) e2
    cases e4 : asg t v σv with
    | none => rw [e4] at e3; cases e3
    | some σ' =>
      rw [e4] at e3
      cases e3
      exact ⟨m1, v, σv, σ', r1, s1.e, e4, fun σ2 s2 _ => p m1 H1 σ2 x1 ⟨s1.h, s2⟩⟩
theorem s1_lc {i : Nat} {y : Str} {py : Pos} {elt tg iter : Expr} {ifs : List Expr} {scope : Scope} {own : List (Str × Nat)} {pos spos : Pos} {d : Bool} {ir : Ex} {t : Tg} {it : It} {cs : List Ex} (hc : X.calm = true) (hN : X.N.Nodup) (hy : X.N[i]? = some y) (hyl : X.env.scope.names.lookup y = some .local)
    (hsw : swapsWith (.ListComp elt [⟨tg, iter, ifs, 0⟩] scope pos) (some (.Name y py)) spos.line X.env = pure true) (hi : SI X w cl tg iter it) (hs : notSet iter = true) (ok : BlkOk X.N X.env.scope scope own) (ht : ∀ i ∈ tvs t, i ∈ own.map (·.2))
    (hb : ∀ (s : Shared) (H : Hp) (C : Addr) (cell : List (Str × Addr)) (fp : List Addr), PG (X.blk s H scope (compEnvC scope cell C X.env) fp) tg (rdG X.K t) ∧ STs (X.blk s H scope (compEnvC scope cell C X.env) fp) w.shut cl ifs cs ∧ SE (X.blk s H scope (compEnvC scope cell C X.env) fp) w.shut cl elt ir) :
    S1 X w cl (.Assign [.Name y py] (.ListComp elt [⟨tg, iter, ifs, 0⟩] scope pos) spos) (.asg (.var i) (.comp d ir t it cs (own.map (·.2)))) :=
  PS.imp (ps_setLc (g := rdG X.K t) (tt := rdT X.K w.shut (evC cl cs)) (te := rdE X.K w.shut (ev cl ir)) hc hN hy hyl hsw hi ok (fun s H C c fp => (hb s H C c fp).1) (fun s H C c fp => (hb s H C c fp).2.1) (fun s H C c fp => (hb s H C c fp).2.2) fun x => notSet_ok hs _ x) fun D σ H ⟨m, σv, S, r, S', s, e1, p⟩ => by
    have e1 : cat σv ((ev cl (.comp d ir t it cs (own.map (·.2))) σv S).bind fun v s => lift ((asg (.var i) v σv).map Fl.nx) s) = .ok r S' := e1
    refine lc_rd ht ⟨m, σv, S, s, (cat_ok e1 s p).imp fun v Sa e2 m1 H1 u x1 h1 r1 => ?_⟩
    cases e2
    exact p m1 H1 _ x1 ⟨h1, (s.e.ext x1).set r1 i⟩
theorem s1_par2 {i j : Nat} {x y : Str} {a b : Expr} {ia ib : Ex} {px py pt pos pt2 : Pos} {kt k2 : Nat} (hc : X.calm = true) (hN : X.N.Nodup) (hi : X.N[i]? = some x) (hj : X.N[j]? = some y) (hij : i ≠ j)
    (hx : X.env.scope.names.lookup x = some .local) (hy : X.env.scope.names.lookup y = some .local) (ha : SA X w cl [a, b] [ia, ib])
    (hw : swappedStores [.Tuple [.Name x px, .Name y py] kt pt] (.Tuple [a, b] k2 pt2) X.env = pure (some [x, y])) :
    S1 X w cl (.Assign [.Tuple [.Name x px, .Name y py] kt pt] (.Tuple [a, b] k2 pt2) pos) (.asg (.tup [.var i, .var j]) (.tup [ia, ib])) :=
  PS.imp (ps_par hc hN hi hj hij hx hy ha hw) fun D σ H ⟨m, σv, S, r, S', s, e1, p⟩ => by
    have e1 : cat σv (((evs cl [ia, ib] σv S).bind fun vs s => mkT vs s).bind fun v s => lift ((asg (.tup [.var i, .var j]) v σv).map Fl.nx) s) = .ok r S' := e1
    rw [Out.bind_assoc] at e1
    refine rd_thenA s (Res.imp_eq (cat_ok e1 s p) fun vs Sa ee e2 m1 H1 u x1 s1 r1 => ?_)
    have l1 := evs_len ee
    match vs, l1, r1, e2 with
    | [v1, v2], _, .cons ra (.cons rb .nil), e2 =>
      unfold mkT at e2
      rw [if_pos (by simp only [List.length]; decide)] at e2
      cases e2
      exact ⟨_, _, rfl, p m1 H1 _ x1 ⟨s1.h, (s1.e.set ra i).set rb j⟩⟩
theorem s1_par3 {i j l : Nat} {x y z : Str} {a b c : Expr} {ia ib ic : Ex} {px py pz pt pos pt2 : Pos} {kt k2 : Nat} (hc : X.calm = true) (hN : X.N.Nodup) (hi : X.N[i]? = some x) (hj : X.N[j]? = some y) (hl : X.N[l]? = some z) (hij : i ≠ j) (hil : i ≠ l) (hjl : j ≠ l)
    (hx : X.env.scope.names.lookup x = some .local) (hy : X.env.scope.names.lookup y = some .local) (hz : X.env.scope.names.lookup z = some .local) (ha : SA X w cl [a, b, c] [ia, ib, ic])
    (hw : swappedStores [.Tuple [.Name x px, .Name y py, .Name z pz] kt pt] (.Tuple [a, b, c] k2 pt2) X.env = pure (some [x, y, z])) :
    S1 X w cl (.Assign [.Tuple [.Name x px, .Name y py, .Name z pz] kt pt] (.Tuple [a, b, c] k2 pt2) pos) (.asg (.tup [.var i, .var j, .var l]) (.tup [ia, ib, ic])) :=
  PS.imp (ps_par3 hc hN hi hj hl hij hil hjl hx hy hz ha hw) fun D σ H ⟨m, σv, S, r, S', s, e1, p⟩ => by
    have e1 : cat σv (((evs cl [ia, ib, ic] σv S).bind fun vs s => mkT vs s).bind fun v s => lift ((asg (.tup [.var i, .var j, .var l]) v σv).map Fl.nx) s) = .ok r S' := e1
    rw [Out.bind_assoc] at e1
    refine rd_thenA s (Res.imp_eq (cat_ok e1 s p) fun vs Sa ee e2 m1 H1 u x1 s1 r1 => ?_)
    have l1 := evs_len ee
    match vs, l1, r1, e2 with
    | [v1, v2, v3], _, .cons ra (.cons rb (.cons rc .nil)), e2 =>
      unfold mkT at e2
      rw [if_pos (by simp only [List.length]; decide)] at e2
      cases e2
      exact ⟨_, _, _, rfl, p m1 H1 _ x1 ⟨s1.h, ((s1.e.set ra i).set rb j).set rc l⟩⟩
theorem store_rd {m : Mp} {σv : Sv} {Sc Sd : Hs} {σ : L2.St} {H3 : Hp} {x y v : VV} {u2 u3 u : V} {z : Unit} {G : Hp → Prop} (s3 : Sit X.K m σv Sc σ H3) (r2 : R X.K m H3 x u2) (r3 : R X.K m H3 y u3) (r1 : R X.K m H3 v u) (e5 : setAt Sc x y v = .ok z Sd)
    (k : ∀ H4, Ext m H3 m H4 → Sit X.K m σv Sd σ H4 → G H4) : rSetL u2 u3 u H3 G ∨ rSetX X.K u2 u3 u H3 G := by
  have dic : ∀ k, x = .ref k → setD Sc k y v = .ok z Sd → rSetL u2 u3 u H3 G ∨ rSetX X.K u2 u3 u H3 G := fun k' ex e6 => by
    subst ex
    cases r2 with
    | ref hk =>
      rename_i a
      unfold setD at e6
      split at e6
      · rename_i t kvs d es ed
        split at e6
        · rename_i hc
          cases e6
          obtain ⟨xs, ob, h1, h2, h3⟩ := s3.h.obj k' _ a es hk
          obtain ⟨o', xs', p1, p2, p3, p4⟩ := put_rd h1 h2 h3 r3 ed hc.1 hc.2 r1
          have ha := List.mem_of_getElem? hk
          have xx := Ext.write (H := H3) (o := o') ha (nfrz_dc h1 h2)
          exact .inr ⟨a, _, rfl, xput_of p1 p2, k _ xx ⟨s3.h.writeO hk ⟨xs', o', upd_same, p3, p4.ext xx⟩, s3.e.ext xx⟩⟩
        · cases e6
      · cases e6
  cases x with
  | ref k' =>
    cases y with
    | int j =>
      have e5 : (match kid Sc k' with
        | some xs => match natIx xs.length j with
          | some n => Out.ok () (Sc.set k' (.lst (xs.set n v)))
          | none => .bad
        | none => setD Sc k' (.int j) v) = .ok z _ := e5
      cases ek : kid Sc k' with
      | none =>
        rw [ek] at e5
        exact dic k' rfl e5
      | some xs =>
        rw [ek] at e5
        dsimp only at e5
        cases en : natIx xs.length j with
        | none => rw [en] at e5; cases e5
        | some n =>
          rw [en] at e5
          cases e5
          cases r2 with
          | ref hk =>
            cases r3
            obtain ⟨ys, h1, h2⟩ := s3.h.list hk ek
            have ha := List.mem_of_getElem? hk
            refine .inl ⟨_, ys, j, n, rfl, rfl, h1, by rw [← h2.length, ← natIx_eq, en], ?_⟩
            have xx := Ext.write (H := H3) (o := HO.lst (ys.set n u)) ha (nfrz_lst h1)
            exact k _ xx ⟨s3.h.write hk (h2.set r1 n), s3.e.ext xx⟩
    | tup ks => exact dic k' rfl e5
    | _ => cases e5
  | _ => cases e5
theorem s1_sub {o i e : Expr} {io ii ie : Ex} {p2 pos : Pos} (hu : X.A.units + 65 < cLine) (hs : okSub i = true) (ho : SE X w cl o io) (hi : SE X w cl i ii) (he : SE X w cl e ie) (hsw : swapsWithSole [.Subscript o i p2] e pos.line X.env = pure false) (hw : swappedStores [.Subscript o i p2] e X.env = pure none) :
    S1 X w cl (.Assign [.Subscript o i p2] e pos) (.sub io ii ie) :=
  PS.imp (ps_asg he (pg_sub ho hi (Tw.PSet.or set_list (set_X hu)) (fun v => by cases i <;> first | rfl | cases hs)) hsw hw (by rfl)) fun D σ H ⟨m, σv, S, r, S', s, e1, p⟩ => by
    have e1 : cat σv ((ev cl ie σv S).bind fun v s => (ev cl io σv s).bind fun x s => (ev cl ii σv s).bind fun y s => (setAt s x y v).bind fun _ s => .ok (.nx σv) s) = .ok r S' := e1
    refine rd_then s ((cat_ok e1 s p).imp fun v Sa e2 m1 H1 u x1 s1 r1 => ?_)
    refine rd_then s1 ((cat_ok e2 s1 (p.ext x1)).imp fun x Sb e3 m2 H2 u2 x2 s2 r2 => ?_)
    refine rd_then s2 ((cat_ok e3 s2 ((p.ext x1).ext x2)).imp fun y Sc e4 m3 H3 u3 x3 s3 r3 => ?_)
    have r1 := (r1.ext x2).ext x3
    have r2 := r2.ext x3
    cases e5 : setAt Sc x y v with
    | bad => rw [e5] at e4; cases e4
    | exc z s => exact absurd e5 (setAt_noX _ _ _ _ _ _)
    | ok z Sd =>
      rw [e5] at e4
      cases e4
      exact store_rd s3 r2 r3 r1 e5 fun H4 xx s4 => p m3 H4 σ (((x1.trans x2).trans x3).trans xx) s4
theorem s1_sub2 {o i o2 i2 e : Expr} {io ii jo ji ie : Ex} {k : Nat} {p1 p2 pt pos : Pos} (hc : X.calm = true) (hu : X.A.units + 65 < cLine) (hs : okSub i = true) (hs2 : okSub i2 = true) (ho : SE X w cl o io) (hi : SE X w cl i ii) (ho2 : SE X w cl o2 jo) (hi2 : SE X w cl i2 ji) (he : SE X w cl e ie)
    (hsw : swapsWithSole [.Tuple [.Subscript o i p1, .Subscript o2 i2 p2] k pt] e pos.line X.env = pure false) (hw : swappedStores [.Tuple [.Subscript o i p1, .Subscript o2 i2 p2] k pt] e X.env = pure none) :
    S1 X w cl (.Assign [.Tuple [.Subscript o i p1, .Subscript o2 i2 p2] k pt] e pos) (.sub2 io ii jo ji ie) :=
  PS.imp (ps_asg he (pg_tup hc (pgs_cons (pg_sub ho hi (Tw.PSet.or set_list (set_X hu)) (fun v => by cases i <;> first | rfl | cases hs)) (pgs_cons (pg_sub ho2 hi2 (Tw.PSet.or set_list (set_X hu)) (fun v => by cases i2 <;> first | rfl | cases hs2)) pgs_nil (by rfl)) (by rfl)) (by rfl) (by rfl)) hsw hw (by rfl)) fun D σ H ⟨m, σv, S, r, S', s, e1, p⟩ => by
    have e1 : cat σv ((ev cl ie σv S).bind fun v s => (match v with
      | .tup [a, b] => (ev cl io σv s).bind fun x s => (ev cl ii σv s).bind fun y s => (setAt s x y a).bind fun _ s => (ev cl jo σv s).bind fun x s => (ev cl ji σv s).bind fun y s => (setAt s x y b).bind fun _ s => .ok (.nx σv) s
      | _ => .bad)) = .ok r S' := e1
    refine rd_then s ((cat_ok e1 s p).imp fun v Sa e2 m1 H1 u x1 s1 r1 => ?_)
    split at e2
    · rename_i a b
      obtain ⟨T, ys, rfl, ft, rt⟩ := (show ∃ T ys, u = .ref T ∧ SqT X.K H1 T ys ∧ Rs X.K m1 H1 [a, b] ys from by
        cases r1 with
        | tup f t => exact ⟨_, _, rfl, f.sq, t⟩)
      cases rt with
      | cons ra rt =>
        rename_i ua us
        cases rt with
        | cons rb rn =>
          rename_i ub us
          cases rn
          refine ⟨T, [ua, ub], rfl, ft, rfl, ua, [ub], rfl, ?_⟩
          have e2 : cat σv ((ev cl io σv Sa).bind fun x s => (ev cl ii σv s).bind fun y s => (setAt s x y a).bind fun _ s => (ev cl jo σv s).bind fun x s => (ev cl ji σv s).bind fun y s => (setAt s x y b).bind fun _ s => .ok (.nx σv) s) = .ok r S' := e2
          refine rd_then s1 ((cat_ok e2 s1 (p.ext x1)).imp fun x Sb e3 m2 H2 u2 x2 s2 r2 => ?_)
          refine rd_then s2 ((cat_ok e3 s2 ((p.ext x1).ext x2)).imp fun y Sc e4 m3 H3 u3 x3 s3 r3 => ?_)
          have ra := (ra.ext x2).ext x3
          have rb := (rb.ext x2).ext x3
          cases e5 : setAt Sc x y a with
          | bad => rw [e5] at e4; cases e4
          | exc z s => exact absurd e5 (setAt_noX _ _ _ _ _ _)
          | ok z Sd =>
            rw [e5] at e4
            refine store_rd s3 (r2.ext x3) r3 ra e5 fun H4 x4 s4 => ?_
            have rb := rb.ext x4
            refine ⟨ub, [], rfl, ?_⟩
            have e4 : cat σv ((ev cl jo σv Sd).bind fun x s => (ev cl ji σv s).bind fun y s => (setAt s x y b).bind fun _ s => .ok (.nx σv) s) = .ok r S' := e4
            refine rd_then s4 ((cat_ok e4 s4 (((p.ext x1).ext x2).ext x3 |>.ext x4)).imp fun x' Se e6 m5 H5 u5 x5 s5 r5 => ?_)
            refine rd_then s5 ((cat_ok e6 s5 ((((p.ext x1).ext x2).ext x3 |>.ext x4).ext x5)).imp fun y' Sf e7 m6 H6 u6 x6 s6 r6 => ?_)
            have rb := (rb.ext x5).ext x6
            cases e8 : setAt Sf x' y' b with
            | bad => rw [e8] at e7; cases e7
            | exc z s => exact absurd e8 (setAt_noX _ _ _ _ _ _)
            | ok z Sg =>
              rw [e8] at e7
              cases e7
              refine store_rd s6 (r5.ext x6) r6 rb e8 fun H7 x7 s7 => ⟨rfl, ?_⟩
              exact p m6 H7 σ ((((((x1.trans x2).trans x3).trans x4).trans x5).trans x6).trans x7) s7
    · cases e2
def rAug (o : Bop) : TIp := fun x y H Q => ∃ a b c, x = .int a ∧ y = .int b ∧ arith o a b = some c ∧ Q (.int c) H
def augB : Bop → Bool
  | .pow => false
  | _ => true
theorem ip_aug {o : Bop} (h : augB o = true) : PIp X (bopOp o) (rAug o) := by
  rintro pins s σ H x y v u Q I rx ry ⟨a, b, c, rfl, rfl, e, q⟩
  cases o with
  | add =>
    cases e
    exact iop_add pins s σ H _ _ v u Q I rx ry ⟨a, b, rfl, rfl, q⟩
  | sub =>
    cases e
    exact iop_sub pins s σ H _ _ v u Q I rx ry ⟨a, b, rfl, rfl, q⟩
  | mul =>
    have e : (if (small a || small b) = true then some (a * b) else none) = some c := e
    split at e
    · rename_i hs
      cases e
      refine iop_mul pins s σ H _ _ v u Q I rx ry ⟨a, b, rfl, rfl, ?_, q⟩
      unfold small at hs
      simp only [Bool.or_eq_true, decide_eq_true_eq] at hs
      exact hs
    · cases e
  | fdiv =>
    have e : (if 0 < b ∧ b < 2 ^ 64 then some (a / b) else none) = some c := e
    split at e
    · rename_i hs
      cases e
      refine iop_fdivW pins s σ H _ _ v u Q I rx ry ⟨a, b, rfl, rfl, ?_, q⟩
      exact ⟨hs.1, log2_64 hs.1 hs.2⟩
    · cases e
  | mod =>
    have e : (if 0 < b then some (a % b) else none) = some c := e
    split at e
    · rename_i hs
      cases e
      exact iop_mod pins s σ H _ _ v u Q I rx ry ⟨a, b, rfl, rfl, hs, q⟩
    · cases e
  | pow => cases h
theorem s1_aug {i : Nat} {x : Str} {e : Expr} {ie : Ex} {op : Operator} {o : Bop} {p2 pos : Pos} (hN : X.N.Nodup) (hi : X.N[i]? = some x) (hx : Loc X.env.scope x) (hf : X.fn x = true ∨ X.env.scope.names.lookup x = some .local) (ho : op = bopOp o) (hb : augB o = true) (he : SE X w cl e ie) :
    S1 X w cl (.AugAssign (.Name x p2) op e pos) (.aug i o ie) := by
  subst ho
  refine PS.imp (ps_aug hN hi hx he (ip_aug hb) hf) fun D σ H ⟨m, σv, S, r, S', s, e1, p⟩ => ?_
  have e1 : (match σv[i]? with
    | some (some x) => cat σv ((ev cl ie σv S).bind fun y s => match x, y with
      | .int _, .int _ => (binV o x y s).bind fun z s => .ok (.nx (σv.set i (some z))) s
      | _, _ => .bad)
    | _ => .bad) = .ok r S' := e1
  split at e1
  · rename_i x hx
    obtain ⟨v, hv, rv⟩ := s.e.get i x hx
    refine ⟨v, hv, rd_then s ((cat_ok e1 s p).imp fun y Sa e2 m1 H1 u x1 s1 r1 => ?_)⟩
    cases x with
    | int a =>
      cases y with
      | int b =>
        have e2 : cat σv ((lift ((arith o a b).map VV.int) Sa).bind fun z s => .ok (.nx (σv.set i (some z))) s) = .ok r S' := e2
        obtain ⟨z, hz, e3⟩ := cat_eq e2
        obtain ⟨c, hc, rfl⟩ := Option.map_eq_some_iff.mp hz
        cases e3
        cases rv
        cases r1
        exact ⟨a, b, c, rfl, rfl, hc, p m1 H1 _ x1 ⟨s1.h, s1.e.set (.int c) i⟩⟩
      | _ => cases e2
    | _ => cases y <;> cases e2
  · cases e1
theorem s1_expr {e : Expr} {ir : Ex} {pos : Pos} (he : SE X w cl e ir) (hs : swapsWith e none pos.line X.env = pure false) : S1 X w cl (.Expr e pos) (.expr ir) :=
  PS.imp (ps_expr he hs) fun D σ H ⟨m, σv, S, r, S', s, e1, p⟩ => by
    have e1 : cat σv ((ev cl ir σv S).bind fun _ s => .ok (.nx σv) s) = .ok r S' := e1
    refine rd_then s ((cat_ok e1 s p).imp fun v Sa e2 m1 H1 u x1 s1 r1 => ?_)
    cases e2
    exact p m1 H1 σ x1 s1
theorem s1_ret {e : Expr} {ir : Ex} {pos : Pos} (he : SE X w cl e ir) : S1 X w cl (.Return (some e) pos) (.ret ir) :=
  PS.imp (ps_ret he) fun D σ H ⟨m, σv, S, r, S', s, e1, p⟩ => by
    have e1 : cat σv ((ev cl ir σv S).bind fun v s => .ok (.rt v) s) = .ok r S' := e1
    refine rd_then s ((cat_ok e1 s p).imp fun v Sa e2 m1 H1 u x1 s1 r1 => ?_)
    cases e2
    exact p m1 H1 u x1 s1.h r1
theorem s1_retN {pos : Pos} : S1 X w cl (.Return none pos) (.ret (.lit .non)) :=
  PS.imp ps_retN fun D σ H ⟨m, σv, S, r, S', s, e1, p⟩ => by
    cases e1
    exact p m H .non Ext.refl s.h .non
theorem s1_pass {pos : Pos} : S1 X w cl (.Pass pos) .pss := PS.imp ps_pass fun D σ H ⟨m, σv, S, r, S', s, e1, p⟩ => by
  cases e1
  exact p m H σ Ext.refl s
theorem s1_brk {pos : Pos} : S1 X w cl (.Break pos) .brk := PS.imp ps_break fun D σ H ⟨m, σv, S, r, S', s, e1, p⟩ => by
  cases e1
  exact p m H σ Ext.refl s
theorem s1_cnt {pos : Pos} : S1 X w cl (.Continue pos) .cnt := PS.imp ps_continue fun D σ H ⟨m, σv, S, r, S', s, e1, p⟩ => by
  cases e1
  exact p m H σ Ext.refl s
theorem s1_never {st : Stmt} : S1 X w cl st .never := PS.imp ps_never fun D σ H ⟨m, σv, S, r, S', s, e1, p⟩ => by
  cases e1
theorem s1_if {c : Expr} {a b : List Stmt} {ic : Ex} {ia ib : List Stm} {pos : Pos} (hc : SB X w cl c ic) (ha : SS X w cl a ia) (hb : SS X w cl b ib) : S1 X w cl (.If c a b pos) (.ife ic ia ib) :=
  PS.imp (ps_if hc.t ha hb) fun D σ H ⟨m, σv, S, r, S', s, e1, p⟩ => by
    have e1 : cat σv ((ev cl ic σv S).bind fun x s => (lift (trV s x) s).bind fun t s => if t then exs cl ia σv s else exs cl ib σv s) = .ok r S' := e1
    refine rd_thenT s ?_
    show Res X.K w m H σ ((ev cl ic σv S).bind fun v s => lift (trV s v) s) _
    refine Res.of_bind ((cat_ok e1 s p).imp fun v Sa e2 => ?_)
    obtain ⟨t, ht, e3⟩ := cat_eq e2
    rw [ht]
    refine Res.mk fun m1 H1 x1 s1 => ?_
    have nox : ∀ {o : Out Fl}, cat σv o = .ok r S' → o = .ok r S' ∨ ∃ v s, o = .exc v s ∧ r = .xc v σv ∧ S' = s := fun {o} e => by
      cases o with
      | ok x s => exact .inl e
      | bad => cases e
      | exc v s => cases e; exact .inr ⟨v, _, rfl, rfl, rfl⟩
    cases t with
    | true =>
      rw [if_pos rfl]
      rw [if_pos rfl] at e3
      exact ⟨m1, σv, Sa, r, S', s1, cat_in (exs_noX _ _ _) e3, p.ext x1⟩
    | false =>
      rw [if_neg (by decide)]
      rw [if_neg (by decide)] at e3
      exact ⟨m1, σv, Sa, r, S', s1, cat_in (exs_noX _ _ _) e3, p.ext x1⟩
theorem s1_whl {c : Expr} {b : List Stmt} {ic : Ex} {ib : List Stm} {pos : Pos} (hp : PassesOwn (model X.prog X.w) X.A X.env X.xe) (hc : SB X w cl c ic) (hb : SS X w cl b ib) : S1 X w cl (.While c b [] pos) (.whl ic ib) :=
  PS.imp (ps_while hp hc.t hb) fun D σ H ⟨m, σv, S, r, S', s, e1, p⟩ => by
    have e1 : whileL (tst cl ic) (fun σ s => exs cl ib σ s) wfuel σv S = .ok r S' := e1
    refine ⟨fun n σ1 H1 => ∃ m1 σ1v S1, Ext m H m1 H1 ∧ Sit X.K m1 σ1v S1 σ1 H1 ∧ whileL (tst cl ic) (fun σ s => exs cl ib σ s) n σ1v S1 = .ok r S', ⟨wfuel, m, σv, S, Ext.refl, s, e1⟩, ?_⟩
    rintro n σ1 H1 ⟨m1, σ1v, S1, x1, s1, e2⟩
    cases n with
    | zero => cases e2
    | succ n =>
      have e2 : cat σ1v ((tst cl ic σ1v S1).bind fun b s => if b then ((fun σ s => exs cl ib σ s) σ1v s).bind fun f s => (match f with
        | .nx σ => whileL (tst cl ic) (fun σ s => exs cl ib σ s) n σ s
        | .ct σ => whileL (tst cl ic) (fun σ s => exs cl ib σ s) n σ s
        | .bk σ => .ok (.nx σ) s
        | .rt v => .ok (.rt v) s
        | .xc v σ => .ok (.xc v σ) s) else .ok (.nx σ1v) s) = .ok r S' := e2
      refine rd_thenT s1 ((cat_ok e2 s1 (p.ext x1)).imp fun t S2 e3 m2 H2 x2 s2 => ?_)
      cases t with
      | true =>
        rw [if_pos rfl]
        rw [if_pos rfl] at e3
        refine ⟨fun σ' H' => ∃ m1 σ1v S1, Ext m H m1 H' ∧ Sit X.K m1 σ1v S1 σ' H' ∧ whileL (tst cl ic) (fun σ s => exs cl ib σ s) n σ1v S1 = .ok r S', fun σ' H' h => ⟨n, Nat.lt_succ_self n, h⟩, ?_⟩
        have e4 := cat_in (fun v s => bind_noX (exs_noX ib σ1v S2) (fun f s v s' h => by
          cases f with
          | nx σ => exact whileL_noX _ _ _ _ _ _ _ h
          | ct σ => exact whileL_noX _ _ _ _ _ _ _ h
          | _ => cases h) v s) e3
        obtain ⟨f, S3, e5, e6⟩ := Out.bind_eq_ok e4
        refine ⟨m2, σ1v, S2, f, S3, s2, e5, ?_⟩
        cases f with
        | nx σ' => exact fun m3 H3 σ3 x3 s3 => ⟨m3, σ', S3, (x1.trans x2).trans x3, s3, e6⟩
        | ct σ' => exact fun m3 H3 σ3 x3 s3 => ⟨m3, σ', S3, (x1.trans x2).trans x3, s3, e6⟩
        | bk σ' => cases e6; exact (p.ext x1).ext x2
        | rt v => cases e6; exact (p.ext x1).ext x2
        | xc v σ' => cases e6; exact (p.ext x1).ext x2
      | false =>
        rw [if_neg (by decide)]
        rw [if_neg (by decide)] at e3
        cases e3
        exact p m2 H2 σ1 (x1.trans x2) s2
theorem forL_noX {g : List (Nat × List VV)} {step : VV → Sv → Hs → Out Fl} (hn : ∀ x σ s v s', step x σ s ≠ .exc v s') : ∀ (xs : List VV) (σ : Sv) (s : Hs) (v : VV) (s' : Hs), forL g step xs σ s ≠ .exc v s'
  | [], σ, s, v, s', h => by
    unfold forL at h
    split at h <;> cases h
  | x :: xs, σ, s, v, s', h => by
    unfold forL at h
    split at h
    · refine bind_noX (hn x σ s) (fun f s v s' h => ?_) v s' h
      cases f with
      | nx σ => exact forL_noX hn xs _ _ _ _ h
      | ct σ => exact forL_noX hn xs _ _ _ _ h
      | _ => cases h
    · cases h
theorem s1_for {tg iter : Expr} {b : List Stmt} {t : Tg} {it : It} {ib : List Stm} {pos : Pos} (hp : PassesOwn (model X.prog X.w) X.A X.env X.xe) (hc : X.calm = true) (hi : SI X w cl tg iter it) (hg : PG X tg (rdG X.K t)) (hs : notSet iter = true) (hb : SS X w cl b ib) :
    S1 X w cl (.For tg iter b [] pos) (.forr t it ib) :=
  PS.imp (ps_for hp hc hi hg hb (fun x => notSet_ok hs _ x)) fun D σ H ⟨m, σv, S, r, S', s, e1, p⟩ => by
    obtain ⟨step, hstep⟩ : ∃ step : VV → Sv → Hs → Out Fl, step = fun x σ s => match asg t x σ with
      | some σ => exs cl ib σ s
      | none => .bad := ⟨_, rfl⟩
    have e1 : cat σv ((evIt cl it σv S).bind fun r s => forL r.2 step r.1 σv s) = .ok r S' := by rw [hstep]; exact e1
    refine ⟨m, σv, S, s, (cat_ok e1 s p).imp fun src S1 e2 m1 H1 J x1 h1 wk => ?_⟩
    have e2 := cat_in (fun v s => forL_noX (fun x σ s v s' h => by
      rw [hstep] at h
      dsimp only at h
      split at h
      · exact exs_noX _ _ _ _ _ h
      · cases h) _ _ _ v s) e2
    obtain ⟨Wp, hWp⟩ : ∃ Wp : Nat → L2.St → Hp → Prop, Wp = fun i σ' H' => i ≤ src.1.length ∧ ∃ M σ2v S2, Ext m H M H' ∧ Sit X.K M σ2v S2 σ' H' ∧ Wk X.K M H' src J ∧ forL src.2 step (src.1.drop i) σ2v S2 = .ok r S' := ⟨_, rfl⟩
    refine ⟨fun i n σ' H' => n = src.1.length - i ∧ Wp i σ' H', ⟨src.1.length, by simp, ?_⟩, ?_⟩
    · rw [hWp]
      exact ⟨Nat.zero_le _, m1, σv, S1, x1, s.ext x1 h1, wk, e2⟩
    rintro i n σ' H' ⟨rfl, hw⟩
    rw [hWp] at hw
    obtain ⟨hl, M, σ2v, S2, x2, s2, wk2, e3⟩ := hw
    by_cases hlt : i < src.1.length
    · right
      rw [List.drop_eq_getElem_cons hlt] at e3
      unfold forL at e3
      split at e3
      · rename_i hgk
        obtain ⟨go1, go2⟩ := wk2.go s2.h hgk (List.getElem?_eq_getElem hlt)
        refine ⟨go1, Wp (i + 1), fun σ2 H2 h => ⟨src.1.length - (i + 1), by omega, rfl, h⟩, fun v H3 y => ?_⟩
        obtain ⟨x3, h3, r3⟩ := go2 v H3 y
        obtain ⟨f, S3, e4, e5⟩ := Out.bind_eq_ok e3
        rw [hstep] at e4
        dsimp only at e4
        split at e4
        · rename_i σ3v ea
          refine ⟨M, _, σ2v, σ3v, r3, s2.e.ext x3, ea, fun σ4 s4 _ => ⟨M, σ3v, S2, f, S3, ⟨h3, s4⟩, e4, ?_⟩⟩
          have again : ∀ (σ5v : Sv), forL src.2 step (src.1.drop (i + 1)) σ5v S3 = .ok r S' → ∀ m' H' σ', Ext M H3 m' H' → Sit X.K m' σ5v S3 σ' H' → Wp (i + 1) σ' H' := fun σ5v e6 m' H' σ' x' s' => by
            rw [hWp]
            exact ⟨hlt, m', σ5v, S3, (x2.trans x3).trans x', s', (wk2.ext x3).ext x', e6⟩
          cases f with
          | nx σ5v => exact again σ5v e5
          | ct σ5v => exact again σ5v e5
          | bk σ5v => cases e5; exact (p.ext x2).ext x3
          | rt v => cases e5; exact (p.ext x2).ext x3
          | xc v σ5v => cases e5; exact (p.ext x2).ext x3
        · cases e4
      · cases e3
    · left
      have hle : src.1.length ≤ i := by omega
      rw [List.drop_eq_nil_of_le hle] at e3
      unfold forL at e3
      split at e3
      · rename_i hgk
        cases e3
        exact ⟨wk2.stop s2.h hgk hle, p M H' σ' x2 s2⟩
      · cases e3
def rxT (K : PySem.W.Frag) : Rx := fun m H v cls d => ∃ (c : String) (x : VV) (dd : Ad) (y : V), v = .exc c x ∧ XcG K c ∧ cls = .ref (xA K c) ∧ d = some dd ∧ H dd = some (.xd [(xF c, y)]) ∧ m.out dd ∧ R K m H x y
theorem SimE.setN {K : PySem.W.Frag} {m : Mp} {H : Hp} {σv : Sv} {σ : L2.St} (h : SimE K m H σv σ) (i : Nat) : SimE K m H (σv.set i none) (σ.set i none) := by
  refine ⟨by simp [h.len], fun j x e => ?_⟩
  by_cases hj : j = i
  · subst hj
    by_cases hl : j < σv.length
    · rw [List.getElem?_set_self hl] at e; cases e
    · rw [List.getElem?_eq_none (by simpa using Nat.le_of_not_lt hl)] at e; cases e
  · rw [List.getElem?_set_ne (Ne.symm hj)] at e
    obtain ⟨v, h1, h2⟩ := h.get j x e
    exact ⟨v, by rw [List.getElem?_set_ne (Ne.symm hj)]; exact h1, h2⟩
theorem s1_rai {c : String} {e : Expr} {ie : Ex} {p pos pos2 : Pos} (hc : X.calm = true) (tk : Takes X w.W) (M : MkOk X c) (hrx : w.rx = rxT X.K) (hx : Passes (L2.CX X.prog X.w) X (fun _ _ _ => False)) (hg : Gl X (Str.ofString c)) (hd : (Str.ofString c == ("__debug__" : Str)) = false)
    (hn : notStar e = true) (he : SE X w cl e ie) : S1 X w cl (.Raise (some (.Call (.Name (Str.ofString c) p) [e] [] pos)) none pos2) (.rai c ie) :=
  PS.imp (ps_raiseX hc tk M hx hg hd (pa_cons he pa_nil (star_cons hn)) (star_cons hn)) fun D σ H ⟨m, σv, S, r, S', s, e1, p⟩ => by
    have e1 : cat σv ((ev cl ie σv S).bind fun v s => .exc (.exc c v) s) = .ok r S' := e1
    refine rd_then s ((cat_ok e1 s p).imp fun v Sa e2 m1 H1 u x1 s1 r1 => ?_)
    cases e2
    refine ⟨u, rfl, fun d hd => ?_⟩
    have x2 : Ext m1 H1 m1 (upd H1 d (.xd [(xF c, u)])) := Ext.new hd
    refine p m1 _ σ _ _ (x1.trans x2) ⟨s1.h.new hd, s1.e.ext x2⟩ ?_
    rw [hrx]
    exact ⟨c, v, d, u, rfl, M.G, rfl, rfl, upd_same, out_of_none s1.h hd, r1.ext x2⟩
theorem s1_tryk {g n : Str} {cs : List String} {i j : Nat} {body : List Stmt} {ib : List Stm} {t : Expr} {p1 p2 p3 pos pos' : Pos} (hs : X.stack = X.env :: X.outer) (hf : X.env.frame = some X.env.locals) (hex : X.ex = []) (hN : X.N.Nodup) (hi : X.N[i]? = some n) (hj : X.N[j]? = some g)
    (hln : X.env.kindOf n = some .local) (hlg : X.env.kindOf g = some .local) (dn : (n == ("__debug__" : Str)) = false) (cn : (n == ("__classdict__" : Str)) = false) (hij : i ≠ j) (ht : TestIs X t (cs.map fun c => .ref (xA X.K c))) (hG : ∀ c ∈ cs, XcG X.K c) (tk : Takes X w.W) (hrx : w.rx = rxT X.K)
    (hb : ∀ (W : WX) (pn : List (Addr × Obj)) (xe : Value → Shared → Prop), Takes (X.tr pn xe) W → PassesOwn (model X.prog X.w) X.A X.env xe → SS (X.tr pn xe) ⟨W, w.rx⟩ cl body ib) :
    S1 X w cl (.Try body [.ExceptHandler (some t) (some n) [.Assign [.Name g p1] (.Name n p2) p3] pos'] [] [] pos) (.tryk ib cs i j) :=
  PS.imp (ps_keep (tb := fun W => rdS X.K ⟨W, w.rx⟩ (exs cl ib)) hs hf hex hN hi hj hln hlg dn cn hij ht tk hb) fun D σ H ⟨m, σv, S, r, S', s, e1, p⟩ => by
    obtain ⟨f, S2, e2, e3⟩ := Out.bind_eq_ok (show (noX (exs cl ib σv S)).bind (fun f s => tryF cs i j f s) = .ok r S' from e1)
    have e2 := noX_eq e2
    refine ⟨m, σv, S, f, S2, s, e2, ?_⟩
    cases f with
    | nx σ1 => cases e3; exact p
    | ct σ1 => cases e3; exact p
    | bk σ1 => cases e3; exact p
    | rt v => cases e3; exact p
    | xc v σ1 =>
      intro m1 H1 σ2 cls d x1 s1 rx
      rw [hrx] at rx
      have rx0 := rx
      obtain ⟨c, x, dd, y, rfl, G, rfl, rfl, hd, hm, rxy⟩ := rx
      refine ⟨_, G.exmAny hG, fun hb => ?_, fun hb => ?_⟩
      · have e3 : (if cs.contains c = true then Out.ok (Fl.nx ((σ1.set j (some (.exc c x))).set i none)) S2 else .ok (.xc (.exc c x) σ1) S2) = .ok r S' := e3
        rw [if_pos hb] at e3
        cases e3
        refine ⟨_, dd, rfl, rfl, fun a na => ?_⟩
        have x2 : Ext m1 H1 m1 (upd H1 a (XO a (xA X.K c) dd)) := Ext.new na
        have ed : upd H1 a (XO a (xA X.K c) dd) dd = some (.xd [(xF c, y)]) := by rw [upd_ne (ne_of_none hd na)]; exact hd
        have rr : R X.K m1 (upd H1 a (XO a (xA X.K c) dd)) (.exc c x) (.ref a) := .exc G upd_same (out_of_none s1.h na) ed hm (rxy.ext x2)
        have eq : ((σ2.set i (some (V.ref a))).set j (some (V.ref a))).set i none = (σ2.set j (some (V.ref a))).set i none := by
          rw [List.set_comm (some (V.ref a)) none (Ne.symm hij), List.set_set, List.set_comm _ _ hij]
        rw [eq]
        exact p m1 _ _ (x1.trans x2) ⟨s1.h.new na, ((s1.e.ext x2).set rr j).setN i⟩
      · have e3 : (if cs.contains c = true then Out.ok (Fl.nx ((σ1.set j (some (.exc c x))).set i none)) S2 else .ok (.xc (.exc c x) σ1) S2) = .ok r S' := e3
        rw [if_neg (by rw [hb]; exact Bool.false_ne_true)] at e3
        cases e3
        refine p m1 H1 σ2 _ _ x1 s1 ?_
        rw [hrx]
        exact rx0
theorem s1_tryn {x g : Str} {c : String} {j : Nat} {body : List Stmt} {ib : List Stm} {cj : Nat} {np p1 cp p3 pos pos' : Pos} (hs : X.stack = X.env :: X.outer) (hf : X.env.frame = some X.env.locals) (hN : X.N.Nodup) (hj : X.N[j]? = some g)
    (hlg : X.env.kindOf g = some .local) (hc : Names X x (.ref (xA X.K c))) (hG : XcG X.K c) (tk : Takes X w.W) (hrx : w.rx = rxT X.K)
    (hb : ∀ (W : WX) (pn : List (Addr × Obj)) (xe : Value → Shared → Prop), Takes (X.tr pn xe) W → PassesOwn (model X.prog X.w) X.A X.env xe → SS (X.tr pn xe) ⟨W, w.rx⟩ cl body ib) :
    S1 X w cl (.Try body [.ExceptHandler (some (.Name x np)) none [.Assign [.Name g p1] (.Constant .none cj cp) p3] pos'] [] [] pos) (.tryn ib c j) :=
  PS.imp (ps_try_many (tb := fun W => rdS X.K ⟨W, w.rx⟩ (exs cl ib)) (l := [(.ref (xA X.K c), fun _ _ _ => tAsg (tC .non) (gName j))]) hs hf tk hb
    (.cons hc (fun a oe cls d pn _ _ => pss_one (ps_asg (X := X.suite a ((a, oe) :: pn)) pe_non (pg_name hN hj (.inl hlg) (.inr hlg)))) .nil)) fun D σ H ⟨m, σv, S, r, S', s, e1, p⟩ => by
    obtain ⟨f, S2, e2, e3⟩ := Out.bind_eq_ok (show (noX (exs cl ib σv S)).bind (fun f s => tryNF c j f s) = .ok r S' from e1)
    have e2 := noX_eq e2
    refine ⟨m, σv, S, f, S2, s, e2, ?_⟩
    cases f with
    | nx σ1 => cases e3; exact p
    | ct σ1 => cases e3; exact p
    | bk σ1 => cases e3; exact p
    | rt v => cases e3; exact p
    | xc v σ1 =>
      intro m1 H1 σ2 cls d x1 s1 rx
      rw [hrx] at rx
      have rx0 := rx
      obtain ⟨d', x, dd, y, rfl, G, rfl, rfl, hd, hm, rxy⟩ := rx
      refine ⟨_, G.exm hG, fun hb a na => ?_, fun hb => ?_⟩
      · have e3 : (if d' = c then Out.ok (Fl.nx (σ1.set j (some .non))) S2 else .ok (.xc (.exc d' x) σ1) S2) = .ok r S' := e3
        rw [if_pos (eq_of_beq hb)] at e3
        cases e3
        exact p m1 _ _ x1 ⟨s1.h, s1.e.set .non j⟩
      · have e3 : (if d' = c then Out.ok (Fl.nx (σ1.set j (some .non))) S2 else .ok (.xc (.exc d' x) σ1) S2) = .ok r S' := e3
        rw [if_neg (ne_of_beq_false hb)] at e3
        cases e3
        refine p m1 H1 σ2 _ _ x1 s1 ?_
        rw [hrx]
        exact rx0
end
end Tw
set_option Elab.async false
set_option linter.all false
set_option autoImplicit false
set_option maxRecDepth 100000
namespace Tw
open PySem PySem.Spec PyProof.Rows L2
section
variable {X : Cx} {w : Wish} {cl : Cl}
theorem se_comp2 {elt tg iter tg2 iter2 : Expr} {ifs ifs2 : List Expr} {scope : Scope} {own : List (Str × Nat)} {pos : Pos} {d : Bool} {ir : Ex} {t t2 : Tg} {it it2 : It} {cs cs2 : List Ex} (hc : X.calm = true) (hN : X.N.Nodup) (hi : SI X w cl tg iter it) (hs : notSet iter = true) (hs2 : notSet iter2 = true) (ok : BlkOk X.N X.env.scope scope own) (ht : ∀ i ∈ tvs t, i ∈ own.map (·.2)) (ht2 : ∀ i ∈ tvs t2, i ∈ own.map (·.2))
    (hb : ∀ (s : Shared) (H : Hp) (C : Addr) (cell : List (Str × Addr)) (fp : List Addr), PG (X.blk s H scope (compEnvC scope cell C X.env) fp) tg (rdG X.K t) ∧ STs (X.blk s H scope (compEnvC scope cell C X.env) fp) w.shut cl ifs cs ∧ SI (X.blk s H scope (compEnvC scope cell C X.env) fp) w.shut cl tg2 iter2 it2 ∧
      PG (X.blk s H scope (compEnvC scope cell C X.env) fp) tg2 (rdG X.K t2) ∧ STs (X.blk s H scope (compEnvC scope cell C X.env) fp) w.shut cl ifs2 cs2 ∧ SE (X.blk s H scope (compEnvC scope cell C X.env) fp) w.shut cl elt ir) :
    SB X w cl (.ListComp elt [⟨tg, iter, ifs, 0⟩, ⟨tg2, iter2, ifs2, 0⟩] scope pos) (.comp2 d ir t it cs t2 it2 cs2 (tvs t2) (own.map (·.2))) :=
  sb_of (PE.imp (pe_lc2 (g := rdG X.K t) (tt := rdT X.K w.shut (evC cl cs)) (wi1 := rdI X.K w.shut (evIt cl it2)) (g1 := rdG X.K t2) (tt1 := rdT X.K w.shut (evC cl cs2)) (te := rdE X.K w.shut (ev cl ir)) hc hN hi ok ht2 (fun s H C c fp => (hb s H C c fp).1) (fun s H C c fp => (hb s H C c fp).2.1) (fun s H C c fp => (hb s H C c fp).2.2.1) (fun s H C c fp => (hb s H C c fp).2.2.2.1) (fun s H C c fp => (hb s H C c fp).2.2.2.2.1) (fun s H C c fp => (hb s H C c fp).2.2.2.2.2) (fun x => notSet_ok hs _ x) (fun e x => notSet_ok hs2 e x)) fun σ H Q q => lc2_rd ht ht2 q) fun _ => rfl
theorem s1_lc2 {i : Nat} {y : Str} {py : Pos} {elt tg iter tg2 iter2 : Expr} {ifs ifs2 : List Expr} {scope : Scope} {own : List (Str × Nat)} {pos spos : Pos} {d : Bool} {ir : Ex} {t t2 : Tg} {it it2 : It} {cs cs2 : List Ex} (hc : X.calm = true) (hN : X.N.Nodup) (hy : X.N[i]? = some y) (hyl : X.env.scope.names.lookup y = some .local)
    (hsw : swapsWith (.ListComp elt [⟨tg, iter, ifs, 0⟩, ⟨tg2, iter2, ifs2, 0⟩] scope pos) (some (.Name y py)) spos.line X.env = pure true) (hi : SI X w cl tg iter it) (hs : notSet iter = true) (hs2 : notSet iter2 = true) (ok : BlkOk X.N X.env.scope scope own) (ht : ∀ i ∈ tvs t, i ∈ own.map (·.2)) (ht2 : ∀ i ∈ tvs t2, i ∈ own.map (·.2))
    (hb : ∀ (s : Shared) (H : Hp) (C : Addr) (cell : List (Str × Addr)) (fp : List Addr), PG (X.blk s H scope (compEnvC scope cell C X.env) fp) tg (rdG X.K t) ∧ STs (X.blk s H scope (compEnvC scope cell C X.env) fp) w.shut cl ifs cs ∧ SI (X.blk s H scope (compEnvC scope cell C X.env) fp) w.shut cl tg2 iter2 it2 ∧
      PG (X.blk s H scope (compEnvC scope cell C X.env) fp) tg2 (rdG X.K t2) ∧ STs (X.blk s H scope (compEnvC scope cell C X.env) fp) w.shut cl ifs2 cs2 ∧ SE (X.blk s H scope (compEnvC scope cell C X.env) fp) w.shut cl elt ir) :
    S1 X w cl (.Assign [.Name y py] (.ListComp elt [⟨tg, iter, ifs, 0⟩, ⟨tg2, iter2, ifs2, 0⟩] scope pos) spos) (.asg (.var i) (.comp2 d ir t it cs t2 it2 cs2 (tvs t2) (own.map (·.2)))) :=
  PS.imp (ps_setLc2 (g := rdG X.K t) (tt := rdT X.K w.shut (evC cl cs)) (wi1 := rdI X.K w.shut (evIt cl it2)) (g1 := rdG X.K t2) (tt1 := rdT X.K w.shut (evC cl cs2)) (te := rdE X.K w.shut (ev cl ir)) hc hN hy hyl hsw hi ok ht2 (fun s H C c fp => (hb s H C c fp).1) (fun s H C c fp => (hb s H C c fp).2.1) (fun s H C c fp => (hb s H C c fp).2.2.1) (fun s H C c fp => (hb s H C c fp).2.2.2.1) (fun s H C c fp => (hb s H C c fp).2.2.2.2.1) (fun s H C c fp => (hb s H C c fp).2.2.2.2.2) (fun x => notSet_ok hs _ x) (fun e x => notSet_ok hs2 e x)) fun D σ H ⟨m, σv, S, r, S', s, e1, p⟩ => by
    have e1 : cat σv ((ev cl (.comp2 d ir t it cs t2 it2 cs2 (tvs t2) (own.map (·.2))) σv S).bind fun v s => lift ((asg (.var i) v σv).map Fl.nx) s) = .ok r S' := e1
    refine lc2_rd ht ht2 ⟨m, σv, S, s, (cat_ok e1 s p).imp fun v Sa e2 m1 H1 u x1 h1 r1 => ?_⟩
    cases e2
    exact p m1 H1 _ x1 ⟨h1, (s.e.ext x1).set r1 i⟩
theorem rs_rg {K : PySem.W.Frag} {m : Mp} {H : Hp} (f : Nat → Int) : ∀ l : List Nat, Rs K m H (l.map fun i => VV.int (f i)) (l.map fun i => V.int (f i))
  | [] => .nil
  | _ :: l => .cons (.int _) (rs_rg f l)
theorem gRange_rd {K : PySem.W.Frag} {m : Mp} {H : Hp} {vs : List VV} {ws : List V} {S S' : Hs} {src : Src} (hv : vs.length ≤ 2) (t : Rs K m H vs ws) (e : gRange vs S = .ok src S') : S' = S ∧ ∃ a b : Int, (ws = [.int b] ∧ a = 0 ∨ ws = [.int a, .int b]) ∧ (-(2 ^ 62) ≤ a ∧ a < 2 ^ 62 ∧ -(2 ^ 62) ≤ b ∧ b < 2 ^ 62) ∧ src.1.length = (b - a).toNat ∧ Rs K m H src.1 (rgV a b) := by
  unfold gRange at e
  split at e
  · rename_i n
    split at e
    · rename_i hb
      cases e
      cases t with
      | cons r t =>
        cases t
        cases r
        refine ⟨rfl, 0, n, .inl ⟨rfl, rfl⟩, ⟨by decide, by decide, hb.1, hb.2⟩, by simp, ?_⟩
        unfold rgV
        rw [Int.sub_zero]
        have := rs_rg (K := K) (m := m) (H := H) (fun i => (0 : Int) + (i : Nat)) (List.range n.toNat)
        simp only [Int.zero_add] at this ⊢
        exact this
    · cases e
  · rename_i a b
    split at e
    · rename_i hb
      cases e
      cases t with
      | cons r t =>
        cases t with
        | cons r' t =>
          cases t
          cases r
          cases r'
          exact ⟨rfl, a, b, .inr rfl, hb, by simp, rs_rg (fun i => a + (i : Nat)) _⟩
    · cases e
  · simp at hv
  · cases e
theorem bi_lrange {m : Bool} {vs : List VV} {S : Hs} : biV m .lrange vs S = (gRange vs S).bind fun r s => mkL m r.1 s := by
  unfold biV
  split <;> first | rfl | (rename_i h; cases h)
theorem bi_trange {m : Bool} {vs : List VV} {S : Hs} : biV m .trange vs S = (gRange vs S).bind fun r s => mkT r.1 s := by
  unfold biV
  split <;> first | rfl | (rename_i h; cases h)
theorem lrg_core {m : Mp} {H : Hp} {S : Hs} {d : Bool} {vs : List VV} {ws : List V} {σ : L2.St} {Q : VK} (hv : vs.length ≤ 2) (h : SimH X.K m H S) (t : Rs X.K m H vs ws) (q : Res X.K w m H σ (biV d .lrange vs S) fun x S' => Post X.K m H x S' Q) :
    ∃ a b : Int, (ws = [.int b] ∧ a = 0 ∨ ws = [.int a, .int b]) ∧ RgOk a b ∧ ∀ p, H p = none → Q (.ref p) (upd H p (.lst (rgV a b))) := by
  rw [bi_lrange] at q
  obtain ⟨z, S', e, p⟩ := q.ok (bind_noX (gRange_noX _ _) fun x s v s' => mkL_noX _ _ _ _ _)
  obtain ⟨src, S1, e1, e2⟩ := Out.bind_eq_ok e
  obtain ⟨rfl, a, b, hw, hb, hl, rr⟩ := gRange_rd hv t e1
  obtain ⟨hz, k⟩ := post_mkL h rr e2 p
  rw [rgV_length, sizeLine_eq] at hz
  exact ⟨a, b, hw, ⟨hb.1, hb.2.1, hb.2.2.1, hb.2.2.2, by omega⟩, k⟩
theorem trg_core {m : Mp} {H : Hp} {S : Hs} {d : Bool} {vs : List VV} {ws : List V} {σ : L2.St} {Q : VK} (hv : vs.length ≤ 2) (h : SimH X.K m H S) (t : Rs X.K m H vs ws) (q : Res X.K w m H σ (biV d .trange vs S) fun x S' => Post X.K m H x S' Q) :
    ∃ a b : Int, (ws = [.int b] ∧ a = 0 ∨ ws = [.int a, .int b]) ∧ RgOk a b ∧ ∀ p, H p = none → Q (.ref p) (upd H p (.tup (rgV a b))) := by
  rw [bi_trange] at q
  obtain ⟨z, S', e, p⟩ := q.ok (bind_noX (gRange_noX _ _) fun x s v s' => mkT_noX _ _ _ _)
  obtain ⟨src, S1, e1, e2⟩ := Out.bind_eq_ok e
  obtain ⟨rfl, a, b, hw, hb, hl, rr⟩ := gRange_rd hv t e1
  obtain ⟨hz, k⟩ := post_mkT h rr e2 p
  rw [rgV_length, sizeLine_eq] at hz
  exact ⟨a, b, hw, ⟨hb.1, hb.2.1, hb.2.2.1, hb.2.2.2, by omega⟩, k⟩
theorem rd_lrg1 {a : Expr} {ia : Ex} {d : Bool} {σ : L2.St} {H : Hp} {Q : VK} (q : rdE X.K w (ev cl (.bi d .lrange [ia])) σ H Q) : tLstRg (tRg1 (rdE X.K w (ev cl ia))) σ H Q := by
  obtain ⟨m, σv, S, s, q⟩ := q
  have q : Res X.K w m H σ ((ev cl ia σv S).bind fun v s => biV d .lrange [v] s) fun x S' => Post X.K m H x S' Q := by
    have e : (ev cl (.bi d .lrange [ia]) σv S) = (ev cl ia σv S).bind fun v s => biV d .lrange [v] s := by
      show ((ev cl ia σv S).bind fun v s => (Out.ok [] s).bind fun vs s => .ok (v :: vs) s).bind _ = _
      rw [Out.bind_assoc]
      rfl
    rw [← e]; exact q
  refine rd_then s (q.bind.imp fun x S1 q1 m1 H1 v x1 s1 r1 => ?_)
  obtain ⟨a, b, hw, hb, k⟩ := lrg_core (by simp) s1.h (.cons r1 .nil) ((q1.ext x1).imp fun z S' p => Post.ext x1 p)
  rcases hw with ⟨hw, rfl⟩ | hw
  · cases hw
    exact ⟨b, rfl, hb, k⟩
  · cases hw
theorem rd_lrg2 {d : Bool} {ia ib : Ex} {σ : L2.St} {H : Hp} {Q : VK} (q : rdE X.K w (ev cl (.bi d .lrange [ia, ib])) σ H Q) : tLstRg (tRg2 (rdE X.K w (ev cl ia)) (rdE X.K w (ev cl ib))) σ H Q := by
  obtain ⟨m, σv, S, s, q⟩ := q
  have q : Res X.K w m H σ ((ev cl ia σv S).bind fun v s => (ev cl ib σv s).bind fun u s => biV d .lrange [v, u] s) fun x S' => Post X.K m H x S' Q := by
    have e : (ev cl (.bi d .lrange [ia, ib]) σv S) = (ev cl ia σv S).bind fun v s => (ev cl ib σv s).bind fun u s => biV d .lrange [v, u] s := by
      show ((ev cl ia σv S).bind fun v s => ((ev cl ib σv s).bind fun v s => (Out.ok [] s).bind fun vs s => .ok (v :: vs) s).bind fun vs s => .ok (v :: vs) s).bind _ = _
      simp only [Out.bind_assoc]
      rfl
    rw [← e]; exact q
  refine rd_then s (q.bind.imp fun x S1 q1 m1 H1 v x1 s1 r1 => rd_then s1 ((q1.bind.ext x1).imp fun y S2 q2 m2 H2 u x2 s2 r2 => ?_))
  obtain ⟨a, b, hw, hb, k⟩ := lrg_core (by simp) s2.h (.cons (r1.ext x2) (.cons r2 .nil)) (((q2.ext x1).ext x2).imp fun z S' p => Post.ext x2 (Post.ext x1 p))
  rcases hw with ⟨hw, rfl⟩ | hw
  · cases hw
  · cases hw
    exact ⟨a, b, rfl, rfl, hb, k⟩
theorem rd_trg1 {d : Bool} {ia : Ex} {σ : L2.St} {H : Hp} {Q : VK} (q : rdE X.K w (ev cl (.bi d .trange [ia])) σ H Q) : tTupRg (tRg1 (rdE X.K w (ev cl ia))) σ H Q := by
  obtain ⟨m, σv, S, s, q⟩ := q
  have q : Res X.K w m H σ ((ev cl ia σv S).bind fun v s => biV d .trange [v] s) fun x S' => Post X.K m H x S' Q := by
    have e : (ev cl (.bi d .trange [ia]) σv S) = (ev cl ia σv S).bind fun v s => biV d .trange [v] s := by
      show ((ev cl ia σv S).bind fun v s => (Out.ok [] s).bind fun vs s => .ok (v :: vs) s).bind _ = _
      rw [Out.bind_assoc]
      rfl
    rw [← e]; exact q
  refine rd_then s (q.bind.imp fun x S1 q1 m1 H1 v x1 s1 r1 => ?_)
  obtain ⟨a, b, hw, hb, k⟩ := trg_core (by simp) s1.h (.cons r1 .nil) ((q1.ext x1).imp fun z S' p => Post.ext x1 p)
  rcases hw with ⟨hw, rfl⟩ | hw
  · cases hw
    exact ⟨b, rfl, hb, k⟩
  · cases hw
theorem rd_trg2 {d : Bool} {ia ib : Ex} {σ : L2.St} {H : Hp} {Q : VK} (q : rdE X.K w (ev cl (.bi d .trange [ia, ib])) σ H Q) : tTupRg (tRg2 (rdE X.K w (ev cl ia)) (rdE X.K w (ev cl ib))) σ H Q := by
  obtain ⟨m, σv, S, s, q⟩ := q
  have q : Res X.K w m H σ ((ev cl ia σv S).bind fun v s => (ev cl ib σv s).bind fun u s => biV d .trange [v, u] s) fun x S' => Post X.K m H x S' Q := by
    have e : (ev cl (.bi d .trange [ia, ib]) σv S) = (ev cl ia σv S).bind fun v s => (ev cl ib σv s).bind fun u s => biV d .trange [v, u] s := by
      show ((ev cl ia σv S).bind fun v s => ((ev cl ib σv s).bind fun v s => (Out.ok [] s).bind fun vs s => .ok (v :: vs) s).bind fun vs s => .ok (v :: vs) s).bind _ = _
      simp only [Out.bind_assoc]
      rfl
    rw [← e]; exact q
  refine rd_then s (q.bind.imp fun x S1 q1 m1 H1 v x1 s1 r1 => rd_then s1 ((q1.bind.ext x1).imp fun y S2 q2 m2 H2 u x2 s2 r2 => ?_))
  obtain ⟨a, b, hw, hb, k⟩ := trg_core (by simp) s2.h (.cons (r1.ext x2) (.cons r2 .nil)) (((q2.ext x1).ext x2).imp fun z S' p => Post.ext x2 (Post.ext x1 p))
  rcases hw with ⟨hw, rfl⟩ | hw
  · cases hw
  · cases hw
    exact ⟨a, b, rfl, rfl, hb, k⟩
def rgBi : Str → Option Bi := fun f => if f = "list" then some .lrange else if f = "tuple" then some .trange else none
theorem se_rg {f : Str} {b : Bi} {es : List Expr} {irs : List Ex} {d : Bool} {p p2 pos pos2 : Pos} (hf : rgBi f = some b) (hc : X.calm = true) (hgf : Gl X f) (hmf : X.mg f = none) (hg : Gl X "range") (hm : X.mg "range" = none) (hs : ∀ e ∈ es, notStar e = true) (he : All2 (SB X w cl) es irs) (hl : es.length = 1 ∨ es.length = 2) :
    SB X w cl (.Call (.Name f p) [.Call (.Name "range" p2) es [] pos2] [] pos) (.bi d b irs) := by
  match es, irs, he, hl with
  | [a], [ia], .cons ha .nil, _ =>
    have na : starEach [a] X.env = (false, eval a X.env) :: starEach [] X.env := star_cons (hs a List.mem_cons_self)
    unfold rgBi at hf
    split at hf
    · rename_i h
      cases hf
      subst h
      exact sb_of (PE.imp (pe_listRg hc hgf hmf (prg_1 hg hm ha.v na)) fun σ H Q q => rd_lrg1 (a := a) q) fun _ => rfl
    · split at hf
      · rename_i h
        cases hf
        subst h
        exact sb_of (PE.imp (pe_tupRg hc hgf hmf (prg_1 hg hm ha.v na)) fun σ H Q q => rd_trg1 q) fun _ => rfl
      · cases hf
  | [a, c], [ia, ic], .cons ha (.cons hc2 .nil), _ =>
    have h1 := hs a List.mem_cons_self
    have h2 := hs c (List.mem_cons_of_mem _ List.mem_cons_self)
    have na : starEach [a, c] X.env = (false, eval a X.env) :: starEach [c] X.env := star_cons h1
    have nb : starEach [c] X.env = (false, eval c X.env) :: starEach [] X.env := star_cons h2
    have hp : (backTo pos2 (starEach [c] X.env)).any (·.1) = false := star_plain (by intro e he; rw [List.mem_singleton.mp he]; exact h2)
    unfold rgBi at hf
    split at hf
    · rename_i h
      cases hf
      subst h
      exact sb_of (PE.imp (pe_listRg hc hgf hmf (prg_2 hg hm ha.v hc2.v na nb hp)) fun σ H Q q => rd_lrg2 q) fun _ => rfl
    · split at hf
      · rename_i h
        cases hf
        subst h
        exact sb_of (PE.imp (pe_tupRg hc hgf hmf (prg_2 hg hm ha.v hc2.v na nb hp)) fun σ H Q q => rd_trg2 q) fun _ => rfl
      · cases hf
  | _ :: _ :: _ :: _, _, _, h => simp at h
end
end Tw
set_option Elab.async false
set_option linter.all false
set_option autoImplicit false
set_option maxRecDepth 100000
namespace Tw
open PySem PySem.Spec PyProof.Rows L2
section
variable {X : Cx} {e : Expr} {t : L2.St → Hp → XK → Prop}
theorem pe_xmk (hs : X.stack = X.env :: X.outer) (hf : X.env.frame = some X.env.locals) (hex : X.ex = []) (he : PMk X e t) : PE X e (fun σ H Q => t σ H fun cls d H' => ∃ C d0, cls = .ref C ∧ d = some d0 ∧ ∀ a, H' a = none → Q (.ref a) (upd H' a (XO a C d0))) := by
  refine ⟨fun pins s σ H Q I h => ?_⟩
  refine wpAny_mono (he pins s σ H _ I h) (fun u s1 hu => ?_) fun _ _ x => x
  obtain ⟨a, oe, vs, sI, H', cls, d, rfl, J, k, hne, ha, hz, hd, h1, na, os, ag, r, C, d0, rfl, rfl, q⟩ := hu
  have J1 : Inv X pins σ H' s1 := Inv.landed (B := sI.heap) J (fun b o e _ => e) (fun b o e => k b o e) (Heap.UpToSlots.of_keeps k) os ag
  have nfr : a ∉ frs (X.env :: X.outer) := fun hm => by
    rw [← hs] at hm
    obtain ⟨_, o', e', _⟩ := J.stack.mem hm
    rw [hne] at e'
    cases e'
  have nL : a ≠ X.env.locals := fun z => nfr (List.mem_filterMap.mpr ⟨X.env, List.mem_cons_self, by rw [hf, z]⟩)
  have nF : a ∉ X.fs := fun hm => by
    obtain ⟨e, he, q⟩ := List.mem_filterMap.mp hm
    exact nfr (List.mem_filterMap.mpr ⟨e, List.mem_cons_of_mem _ he, q⟩)
  have other : ∀ p ∈ X.pn ++ pins, p.1 ≠ a := fun p hp z => by
    have := (J.pin p hp).1
    rw [z, hne] at this
    cases this
  have J2 : Inv X ((a, oe) :: pins) σ H' s1 := Inv.pins_of J1 fun p hp => by
    rcases List.mem_cons.mp hp with rfl | hp
    · exact ⟨ha, na, nL, nF, fun v z => by rw [hd] at z; cases z⟩
    · exact J1.pin p (List.mem_append_right _ hp)
  have fresh : ∀ o, X.s_0.heap.get? a = some o → X.H_0 a ≠ none := fun o e z => by
    have := J.base.keep a o e z nF (by rw [hex]; exact List.not_mem_nil)
    rw [hne] at this
    cases this
  exact ⟨.ref a, _, Inv.track J2 hz ⟨_, hd⟩ fresh other, rfl, q a na⟩
variable {w : Wish} {cl : Cl}
theorem se_xmk {c : String} {a : Expr} {ia : Ex} {p pos : Pos} (hs : X.stack = X.env :: X.outer) (hf : X.env.frame = some X.env.locals) (hex : X.ex = []) (M : MkOk X c) (hx : Passes (L2.CX X.prog X.w) X (fun _ _ _ => False)) (hg : Gl X (Str.ofString c)) (hd : (Str.ofString c == ("__debug__" : Str)) = false)
    (hn : notStar a = true) (he : SE X w cl a ia) : SE X w cl (.Call (.Name (Str.ofString c) p) [a] [] pos) (.xmk c ia) :=
  PE.imp (pe_xmk hs hf hex (pmk_x M hx hg hd (pa_cons he pa_nil (star_cons hn)) (star_cons hn))) fun σ H Q ⟨m, σv, S, s, e⟩ => by
    have e : Res X.K w m H σ ((ev cl ia σv S).bind fun x s => .ok (.exc c x) s) fun x S' => Post X.K m H x S' Q := e
    refine rd_then s (e.bind.imp fun x S1 e1 m1 H1 u x1 s1 r1 => ?_)
    obtain ⟨z, S', e3, q⟩ := e1.ok (fun v s z => nomatch z)
    cases e3
    refine ⟨u, rfl, fun d hd => ⟨_, _, rfl, rfl, fun b hb => ?_⟩⟩
    have x2 : Ext m1 H1 m1 (upd H1 d (.xd [(xF c, u)])) := Ext.new hd
    have s2 := s1.h.new (o := .xd [(xF c, u)]) hd
    have x3 : Ext m1 (upd H1 d (.xd [(xF c, u)])) m1 (upd (upd H1 d (.xd [(xF c, u)])) b (XO b (xA X.K c) d)) := Ext.new hb
    have ed : upd (upd H1 d (.xd [(xF c, u)])) b (XO b (xA X.K c) d) d = some (.xd [(xF c, u)]) := by rw [upd_ne (ne_of_none upd_same hb)]; exact upd_same
    exact q m1 _ (.ref b) ((x1.trans x2).trans x3) (s2.new hb) (.exc M.G upd_same (out_of_none s2 hb) ed (out_of_none s1.h hd) ((r1.ext x2).ext x3))
theorem se_xmkk {c : String} {a : Expr} {ia : Ex} {p pos kp : Pos} (hs : X.stack = X.env :: X.outer) (hf : X.env.frame = some X.env.locals) (hex : X.ex = []) (M : MkOk X c) (hx : Passes (L2.CX X.prog X.w) X (fun _ _ _ => False)) (hg : Gl X (Str.ofString c)) (hd : (Str.ofString c == ("__debug__" : Str)) = false)
    (he : SE X w cl a ia) : SE X w cl (.Call (.Name (Str.ofString c) p) [] [⟨some (xF c), a, kp⟩] pos) (.xmk c ia) :=
  PE.imp (pe_xmk hs hf hex (pmk_xk M hx hg hd (pk_cons he pk_nil))) fun σ H Q ⟨m, σv, S, s, e⟩ => by
    have e : Res X.K w m H σ ((ev cl ia σv S).bind fun x s => .ok (.exc c x) s) fun x S' => Post X.K m H x S' Q := e
    refine rd_then s (e.bind.imp fun x S1 e1 m1 H1 u x1 s1 r1 => ?_)
    obtain ⟨z, S', e3, q⟩ := e1.ok (fun v s z => nomatch z)
    cases e3
    refine ⟨u, rfl, fun d hd => ⟨_, _, rfl, rfl, fun b hb => ?_⟩⟩
    have x2 : Ext m1 H1 m1 (upd H1 d (.xd [(xF c, u)])) := Ext.new hd
    have s2 := s1.h.new (o := .xd [(xF c, u)]) hd
    have x3 : Ext m1 (upd H1 d (.xd [(xF c, u)])) m1 (upd (upd H1 d (.xd [(xF c, u)])) b (XO b (xA X.K c) d)) := Ext.new hb
    have ed : upd (upd H1 d (.xd [(xF c, u)])) b (XO b (xA X.K c) d) d = some (.xd [(xF c, u)]) := by rw [upd_ne (ne_of_none upd_same hb)]; exact upd_same
    exact q m1 _ (.ref b) ((x1.trans x2).trans x3) (s2.new hb) (.exc M.G upd_same (out_of_none s2 hb) ed (out_of_none s1.h hd) ((r1.ext x2).ext x3))
end
end Tw
set_option Elab.async false
set_option linter.all false
set_option autoImplicit false
set_option maxRecDepth 100000
namespace Tw
open PySem PySem.Spec PyProof.Rows L2
section
variable {X : Cx} {w : Wish} {cl : Cl}
def dnV (i j : Int) : List V := (List.range (i - j).toNat).map fun k => V.int (i - (k : Nat))
theorem vals_dn {i j : Int} {acc : Array Value} (h : ItemsOf (fun k v => ∃ t, v = .int (i + k * (-1)) t) acc (i - j).toNat) : Vals (dnV i j) acc.toList := by
  have e : acc.toList.length = (i - j).toNat := by rw [Array.length_toList]; exact h.1
  unfold dnV
  rw [← e]
  refine vals_of_get acc.toList _ fun k u hk => ?_
  obtain ⟨t, rfl⟩ := h.2 k u (by rw [← hk, Array.getElem?_toList])
  exact ⟨t, by congr 1; omega⟩
def tLstDn (ta : TA) : TE := fun σ H Q => ta σ H fun vs H1 => ∃ i j : Int, vs = [.int i, .int j, .int (-1)] ∧ (-(2 ^ 62) ≤ i ∧ i < 2 ^ 62 ∧ -(2 ^ 62) ≤ j ∧ j < 2 ^ 62) ∧ (i - j).toNat ≤ sizeLine ∧ ∀ q, H1 q = none → Q (.ref q) (upd H1 q (.lst (dnV i j)))
theorem pe_listDn {a b c : Expr} {ta : TA} {p p2 pos pos2 : Pos} (hc : X.calm = true) (hgl : Gl X "list") (hml : X.mg "list" = none) (hg : Gl X "range") (hm : X.mg "range" = none) (ha : PA X [a, b, c] ta)
    (hs : starEach [a, b, c] X.env = (false, eval a X.env) :: starEach [b, c] X.env) (hpl : (backTo pos2 (starEach [b, c] X.env)).any (·.1) = false) :
    PE X (.Call (.Name "list" p) [.Call (.Name "range" p2) [a, b, c] [] pos2] [] pos) (tLstDn ta) := by
  refine ⟨fun pins s σ H Q I h => ?_⟩
  have na : starEach [Expr.Call (.Name "range" p2) [a, b, c] [] pos2] X.env = (false, eval (.Call (.Name "range" p2) [a, b, c] [] pos2) X.env) :: starEach [] X.env := by rfl
  refine Call_ (ld_blt I hgl hml boot_list (PyProof.Rows.callWith_type1 (args_cons (thn (Q := fun x s1 => ∃ r i j t u v H1, x = Value.ref r ∧ IsRange s1.heap r i j (-1) t u v ∧ Inv X pins σ H1 s1 ∧ (-(2 ^ 62) ≤ i ∧ i < 2 ^ 62 ∧ -(2 ^ 62) ≤ j ∧ j < 2 ^ 62) ∧ (i - j).toNat ≤ sizeLine ∧ ∀ q, H1 q = none → Q (.ref q) (upd H1 q (.lst (dnV i j)))) ?_ fun x s1 ⟨r, i, j, t, u, v, H1, ex, hr, I1, ⟨b1, b2, b3, b4⟩, b5, q⟩ => args_nil ?_) na) na))
  · refine Call_ (ld_blt I hg hm boot_range (PyProof.Rows.callWith_type1 (thn (ha.run pos2 pins s σ H _ I h) fun us s1 ⟨vs, H1, I1, r1, q1⟩ => ?_) hs hpl))
    obtain ⟨i, j, e, bd, sz, q⟩ := q1
    subst e
    cases r1 with
    | cons r rr =>
      cases rr with
      | cons r' rr =>
        cases rr with
        | cons r'' rr =>
          cases rr
          obtain ⟨t, rfl⟩ := r
          obtain ⟨t', rfl⟩ := r'
          obtain ⟨t'', rfl⟩ := r''
          refine call_range_3 (by decide) ?_ (.inl (PyProof.noPylong_small (by decide)))
          exact ⟨_, i, j, _, _, _, H1, rfl, IsRange.new _ _ _ _ _ _ _, I1.kept fun b u e => Heap.get?_push_of_some _ e, bd, sz, q⟩
  · subst ex
    have rs := RgC.neg b1 b2 b3 b4
    refine call_list_range (n := (i - j).toNat) (I1.ok.hd hc) hr rs.2.2.1 rs.2.2.2 (by rw [sizeLine_eq] at b5; omega) fun h' tk acc c' hk e' hi => ?_
    refine ⟨.ref s1.heap.objs.size, upd H1 s1.heap.objs.size (.lst (dnV i j)), I1.laid hk (Nat.le_refl _) (show ObjOk X.prog X.w _ _ _ (.lst (dnV i j)) from ⟨?_, acc.toList, c', vals_dn hi, ?_⟩), rfl, q _ (I1.hok.fresh (Nat.le_refl _))⟩
    · unfold dnV
      rw [List.length_map, List.length_range]
      exact b5
    · rw [Array.toArray_toList]; exact e'
theorem bi_lrgD {m : Bool} {vs : List VV} {S S' : Hs} {z : VV} (e : biV m .lrangeD vs S = .ok z S') : ∃ i j : Int, vs = [.int i, .int j, .int (-1)] ∧ (-(2 ^ 62) ≤ i ∧ i < 2 ^ 62 ∧ -(2 ^ 62) ≤ j ∧ j < 2 ^ 62) ∧ mkL m ((List.range (i - j).toNat).map fun (k : Nat) => VV.int (i - k)) S = .ok z S' := by
  unfold biV at e
  split at e <;> first
    | (rename_i h; cases h)
    | skip
  · split at e
    · rename_i hc
      obtain ⟨rfl, hb⟩ := hc
      exact ⟨_, _, rfl, hb, e⟩
    · cases e
  · cases e
theorem bi_lrgD_noX (m : Bool) (vs : List VV) (S : Hs) (v : VV) (s : Hs) : biV m .lrangeD vs S ≠ .exc v s := by
  unfold biV
  split <;> first
    | (rename_i h; cases h)
    | skip
  · split
    · exact mkL_noX _ _ _ _ _
    · intro h; cases h
  · intro h; cases h
theorem rs_dn {K : PySem.W.Frag} {m : Mp} {H : Hp} (f : Nat → Int) (l : List Nat) : Rs K m H (l.map fun i => VV.int (f i)) (l.map fun i => V.int (f i)) := rs_rg f l
theorem se_rgD {a b c : Expr} {ia ib ic : Ex} {d : Bool} {p p2 pos pos2 : Pos} (hc : X.calm = true) (hgf : Gl X "list") (hmf : X.mg "list" = none) (hg : Gl X "range") (hm : X.mg "range" = none) (hs : ∀ e ∈ [a, b, c], notStar e = true) (he : SA X w cl [a, b, c] [ia, ib, ic]) :
    SB X w cl (.Call (.Name "list" p) [.Call (.Name "range" p2) [a, b, c] [] pos2] [] pos) (.bi d .lrangeD [ia, ib, ic]) := by
  have h1 := hs a List.mem_cons_self
  have hp : (backTo pos2 (starEach [b, c] X.env)).any (·.1) = false := star_plain (fun e he => hs e (List.mem_cons_of_mem _ he))
  refine sb_of (PE.imp (pe_listDn hc hgf hmf hg hm he (star_cons h1) hp) fun σ H Q ⟨m, σv, S, s, q⟩ => ?_) fun _ => rfl
  have q : Res X.K w m H σ ((evs cl [ia, ib, ic] σv S).bind fun vs s => biV d .lrangeD vs s) fun x S' => Post X.K m H x S' Q := q
  refine rd_thenA s (q.bind.imp fun x S1 e1 m1 H1 v x1 s1 r1 => ?_)
  obtain ⟨z, S', e2, k⟩ := e1.ok (bi_lrgD_noX _ _ _)
  obtain ⟨i, j, rfl, hb, e3⟩ := bi_lrgD e2
  cases r1 with
  | cons r rr =>
    cases rr with
    | cons r' rr =>
      cases rr with
      | cons r'' rr =>
        cases rr
        cases r
        cases r'
        cases r''
        obtain ⟨hz, k2⟩ := post_mkL s1.h (rs_dn (fun k => i - (k : Nat)) (List.range (i - j).toNat)) e3 (Post.ext x1 k)
        refine ⟨i, j, rfl, hb, ?_, k2⟩
        rw [List.length_map, List.length_range] at hz
        exact hz
end
end Tw
set_option Elab.async false
set_option linter.all false
set_option autoImplicit false
set_option maxRecDepth 100000
namespace Tw
open PySem PySem.Spec PyProof.Rows L2
section
variable {X : Cx} {w : Wish} {cl : Cl}
theorem s1_setf {o e : Expr} {io ie : Ex} {f : Str} {p2 pos : Pos} (ho : SE X w cl o io) (he : SE X w cl e ie) (hs : swapsWith e (some (.Attribute o f p2)) pos.line X.env = pure false) : S1 X w cl (.Assign [.Attribute o f p2] e pos) (.setf io f ie) :=
  PS.imp (L2.ps_fld ho he hs) fun D σ H ⟨m, σv, S, r, S', s, e1, p⟩ => by
    have e1 : cat σv ((ev cl ie σv S).bind fun v s => (ev cl io σv s).bind fun x s => (setFld f x v s).bind fun _ s => .ok (.nx σv) s) = .ok r S' := e1
    refine rd_then s ((cat_ok e1 s p).imp fun v Sa e2 m1 H1 u1 x1 s1 r1 => ?_)
    refine rd_then s1 ((cat_ok e2 s1 (p.ext x1)).imp fun x Sb e3 m2 H2 u2 x2 s2 r2 => ?_)
    have r1 := r1.ext x2
    cases e5 : setFld f x v Sb with
    | bad => rw [e5] at e3; cases e3
    | exc z s => exact absurd e5 (setFld_noX _ _ _ _ _ _)
    | ok z Sd =>
      rw [e5] at e3
      cases e3
      unfold setFld at e5
      split at e5
      · rename_i k
        split at e5
        · rename_i c fs es
          split at e5
          · rename_i hc
            cases e5
            cases r2 with
            | ref hk =>
              rename_i a
              obtain ⟨dx, gs, h1, h2, h3, h4⟩ := s2.h.obj k _ a es hk
              have ha := List.mem_of_getElem? hk
              have hl : fs.length = gs.length := by
                have := congrArg List.length h3
                rwa [List.length_map, List.length_map] at this
              refine ⟨a, _, dx, gs, rfl, h1, h2.cls, h2.no f (by simpa using hc.1), by omega, ?_⟩
              have xx := Ext.write (H := H2) (o := HO.ins (kA X.K c) dx (putF f u1 gs)) ha (nfrz_ins h1)
              obtain ⟨g1, g2⟩ := put_fld r1 h3 h4
              exact p m2 _ σ ((x1.trans x2).trans xx) ⟨s2.h.writeO hk ⟨dx, _, upd_same, h2, g1, g2.wr ha⟩, s2.e.ext xx⟩
          · cases e5
        · cases e5
      · cases e5
theorem pget_X (hu : X.A.units + 65 < cLine) : PGet X (rItX X.K) := by
  intro pins s σ H x y v u Q I rx ry h
  obtain ⟨a, z, rfl, g, q⟩ := h
  rcases g with g | g
  · cases (show v = Value.ref a from rx)
    exact d_getItem (by omega) I g ry fun w' s' I' rw' => ⟨z, H, I', rw', q⟩
  · cases (show v = Value.ref a from rx)
    exact n_getItem hu I g ry fun w' s' I' rw' => ⟨z, H, I', rw', q⟩
theorem setK_noX (x i y : VV) (s : Hs) (v : VV) (s' : Hs) : setK s x i y ≠ .exc v s' := by
  unfold setK
  split <;> first | exact setD_noX _ _ _ _ _ _ | (intro h; cases h)
theorem s1_augs {o i e : Expr} {io ii ie : Ex} {op : Operator} {b : Bop} {tpos pos : Pos} (hu : X.A.units + 65 < cLine) (hs : okSub i = true) (ho : SE X w cl o io) (hi : SE X w cl i ii) (he : SE X w cl e ie) (hop : op = bopOp b) (hb : augB b = true) : S1 X w cl (.AugAssign (.Subscript o i tpos) op e pos) (.augs io ii b ie) := by
  subst hop
  refine PS.imp (ps_augS ho hi (pget_X hu) he (ip_aug hb) (set_X hu) (fun ov iv new => by cases i <;> first | rfl | cases hs)) fun D σ H ⟨m, σv, S, r, S', s, e1, p⟩ => ?_
  have e1 : cat σv ((ev cl io σv S).bind fun x s => (ev cl ii σv s).bind fun y s => (lift ((getDV s x y).bind fun o => o) s).bind fun z s => (ev cl ie σv s).bind fun u s => (augV b z u s).bind fun r s => (setK s x y r).bind fun _ s => .ok (.nx σv) s) = .ok r S' := e1
  refine rd_then s ((cat_ok e1 s p).imp fun x Sa e2 m1 H1 u1 x1 s1 r1 => ?_)
  refine rd_then s1 ((cat_ok e2 s1 (p.ext x1)).imp fun y Sb e3 m2 H2 u2 x2 s2 r2 => ?_)
  obtain ⟨z, hz, e4⟩ := cat_eq e3
  obtain ⟨o1, ho1, ho2⟩ := Option.bind_eq_some_iff.mp hz
  subst ho2
  obtain ⟨a, rr, rfl, g1, g2⟩ := get_rd s2.h (r1.ext x2) r2 ho1
  cases rr with
  | none => exact g2.elim
  | some zv =>
    refine ⟨a, zv, rfl, g1, ?_⟩
    refine rd_then s2 ((cat_ok e4 s2 ((p.ext x1).ext x2)).imp fun u Sc e5 m3 H3 u3 x3 s3 r3 => ?_)
    cases e6 : augV b z u Sc with
    | bad => rw [e6] at e5; cases e5
    | exc _ _ => exact absurd e6 (augV_noX _ _ _ _ _ _)
    | ok rv Sd =>
      rw [e6] at e5
      unfold augV at e6
      split at e6
      · rename_i i1 i2
        obtain ⟨e7, rfl⟩ := lift_eq_ok e6
        obtain ⟨i3, h3, rfl⟩ := Option.map_eq_some_iff.mp e7
        have g2 : R X.K m2 H2 (.int i1) zv := g2
        cases g2
        cases r3
        refine ⟨i1, i2, i3, rfl, rfl, h3, ?_⟩
        have e5 : cat σv ((setK Sd x y (.int i3)).bind fun _ s => .ok (.nx σv) s) = .ok r S' := e5
        cases e8 : setK Sd x y (.int i3) with
        | bad => rw [e8] at e5; cases e5
        | exc _ _ => exact absurd e8 (setK_noX _ _ _ _ _ _)
        | ok zz Se =>
          rw [e8] at e5
          cases e5
          have r1' := (r1.ext x2).ext x3
          have r2' := r2.ext x3
          unfold setK at e8
          split at e8
          · rename_i k
            cases r1' with
            | ref hk =>
              unfold setD at e8
              split at e8
              · rename_i t kvs d es ed
                split at e8
                · rename_i hc
                  cases e8
                  obtain ⟨xs, ob, h1, h2, h3'⟩ := s3.h.obj k _ a es hk
                  obtain ⟨o', xs', p1, p2, p3, p4⟩ := put_rd h1 h2 h3' r2' ed hc.1 hc.2 (R.int i3)
                  have ha := List.mem_of_getElem? hk
                  have xx := Ext.write (H := H3) (o := o') ha (nfrz_dc h1 h2)
                  exact ⟨a, _, rfl, xput_of p1 p2, p m3 _ σ (((x1.trans x2).trans x3).trans xx) ⟨s3.h.writeO hk ⟨xs', o', upd_same, p3, p4.ext xx⟩, s3.e.ext xx⟩⟩
                · cases e8
              · cases e8
          · cases e8
      · cases e6
theorem pure_rd {K : PySem.W.Frag} {m : Mp} {σv : Sv} {S : Hs} {σ : L2.St} {H : Hp} (s : Sit K m σv S σ H) {x : Ex} {v : VV} (e : pureV x σv S = some v) : ∃ u, R K m H v u := by
  unfold pureV at e
  split at e
  · split at e
    · rename_i h
      cases e
      obtain ⟨u, _, r⟩ := s.e.get _ _ h
      exact ⟨u, r⟩
    · cases e
  · split at e
    · rename_i k h
      split at e
      · rename_i c fs es
        obtain ⟨u, _, r⟩ := s.e.get _ _ h
        cases r with
        | ref hk =>
          obtain ⟨dx, gs, h1, h2, h3, h4⟩ := s.h.obj k _ _ es hk
          obtain ⟨v', _, rv⟩ := look_fld h3 h4 e
          exact ⟨v', rv⟩
      · cases e
    · cases e
  · cases e
structure Lkd (K : PySem.W.Frag) (m : Mp) (σv : Sv) (S : Hs) (σ : L2.St) (H : Hp) (k : Nat) (t : Bool) (kvs : List (VV × VV)) (d : Ad) (u : HO) (xs : List (DK × V)) : Prop where
  hk : m.ix[k]? = some d
  hd : H d = some u
  dc : dcO d t xs u
  rp : Rp K m H kvs xs
  mu : Mut (some u)
theorem lck_at {K : PySem.W.Frag} {m : Mp} {σv : Sv} {S : Hs} {σ : L2.St} {H : Hp} (s : Sit K m σv S σ H) {x : Ex} {k : Nat} {t : Bool} {kvs : List (VV × VV)} (e : lckV x σv S = some (k, t, kvs)) : ∃ d u xs, Lkd K m σv S σ H k t kvs d u xs := by
  unfold lckV at e
  split at e
  · rename_i k' ep
    split at e
    · rename_i t' kvs' es
      cases e
      obtain ⟨v, r⟩ := pure_rd s ep
      cases r with
      | ref hk =>
        rename_i a
        obtain ⟨xs, o, h1, h2, h3⟩ := s.h.obj k _ a es hk
        refine ⟨a, o, xs, hk, h1, h2, h3, ?_⟩
        rcases h2 with ⟨_, ps, _, rfl⟩ | ⟨_, ps, _, rfl⟩
        · exact True.intro
        · exact True.intro
    · cases e
  · cases e
theorem Lkd.lock {K : PySem.W.Frag} {m : Mp} {σv : Sv} {S : Hs} {σ : L2.St} {H : Hp} {k : Nat} {t : Bool} {kvs : List (VV × VV)} {d : Ad} {u : HO} {xs : List (DK × V)} (l : Lkd K m σv S σ H k t kvs d u xs) (s : Sit K m σv S σ H) (od : Obj) : Ext m H m (upd H d (.frz od u)) ∧ Sit K m σv (S.set k (.lck t kvs)) σ (upd H d (.frz od u)) := by
  have ha := List.mem_of_getElem? l.hk
  have xx : Ext m H m (upd H d (.frz od u)) := Ext.write ha (nfrz_dc l.hd l.dc)
  exact ⟨xx, s.h.writeO l.hk ⟨od, xs, u, upd_same, l.dc, l.rp.wr ha⟩, s.e.ext xx⟩
theorem Lkd.unlock {K : PySem.W.Frag} {m m' : Mp} {σv : Sv} {S S1 : Hs} {σ : L2.St} {H H' : Hp} {k : Nat} {t : Bool} {kvs : List (VV × VV)} {d : Ad} {u : HO} {xs : List (DK × V)} {od : Obj} (l : Lkd K m σv S σ H k t kvs d u xs) (x : Ext m (upd H d (.frz od u)) m' H') (h : SimH K m' H' S1) :
    H' d = some (.frz od u) ∧ Ext m H m' (upd H' d u) ∧ SimH K m' (upd H' d u) (S1.set k (.dct t kvs)) ∧ (∀ {y : VV} {v : V}, R K m' H' y v → R K m' (upd H' d u) y v) ∧ ∀ {σv' : Sv} {σ' : L2.St}, SimE K m' H' σv' σ' → SimE K m' (upd H' d u) σv' σ' := by
  have ha := List.mem_of_getElem? l.hk
  obtain ⟨tl, et, hn⟩ := x.grow
  have hk' : m'.ix[k]? = some d := by rw [et, List.getElem?_append_left (List.getElem?_eq_some_iff.mp l.hk).1]; exact l.hk
  have ha' := List.mem_of_getElem? hk'
  have xx : Ext m H m (upd H d (.frz od u)) := Ext.write ha (nfrz_dc l.hd l.dc)
  have nf := nfrz_dc l.hd l.dc
  refine ⟨x.frz _ _ _ upd_same, ⟨fun a o e hm => ?_, fun a e => ?_, (by rw [x.av]), fun a o v e => ?_, tl, et, fun a ha => ?_⟩, h.writeO hk' ⟨xs, u, upd_same, l.dc, ((l.rp.ext xx).ext x).wr ha'⟩, fun r => r.wr ha', fun se => ⟨se.len, fun i x q => let ⟨v, h1, h2⟩ := se.get i x q; ⟨v, h1, h2.wr ha'⟩⟩⟩
  · have ne : a ≠ d := fun z => hm (by rw [z]; exact ha)
    rw [upd_ne ne]
    exact x.keep a o (by rw [upd_ne ne]; exact e) hm
  · by_cases z : a = d
    · rw [z, upd_same]; simp
    · rw [upd_ne z]
      exact x.live a (by rw [upd_ne z]; exact e)
  · have ne : a ≠ d := fun z => nf o v (by rw [← z]; exact e)
    rw [upd_ne ne]
    exact x.frz a o v (by rw [upd_ne ne]; exact e)
  · have := hn a ha
    by_cases z : a = d
    · rw [z, upd_same] at this; cases this
    · rwa [upd_ne z] at this
theorem se_lock {e : Expr} {ix ie : Ex} (h : SE X w cl e ie) (ht : ∀ x, PySem.isTrue e X.env x = (do
    let v ← x
    standAt e.pos
    holding [v] (truthy v))) : SB X w cl e (.lock ix ie) := by
  refine sb_of (PE.imp (pe_lock h) fun σ H Q ⟨m, σv, S, s, q⟩ => ?_) ht
  have q : Res X.K w m H σ (match lckV ix σv S with
    | some (k, t, kvs) => (noX (ev cl ie σv (S.set k (.lck t kvs)))).bind fun v s => .ok v (s.set k (.dct t kvs))
    | none => Out.bad) fun x S' => Post X.K m H x S' Q := q
  split at q
  · rename_i k t kvs el
    obtain ⟨d, u, xs, l⟩ := lck_at s el
    refine ⟨d, u, l.hd, l.mu, fun od => ?_⟩
    obtain ⟨x1, s1⟩ := l.lock s od
    obtain ⟨v, S1, e1, p⟩ := q.bind.ok (noX_noX _)
    have e1 := noX_eq e1
    have p : Post X.K m H v (S1.set k (.dct t kvs)) Q := p
    refine ⟨m, σv, _, s1, ?_⟩
    rw [e1]
    intro m' H' y x2 h2 r2
    obtain ⟨g1, g2, g3, g4, _⟩ := l.unlock x2 h2
    exact ⟨g1, p m' _ y g2 g3 (g4 r2)⟩
  · exact q.elim
theorem s1_lock {st : Stmt} {ix : Ex} {ir : Stm} (h : S1 X w cl st ir) : S1 X w cl st (.lockS ix ir) :=
  PS.imp (ps_lock h) fun D σ H ⟨m, σv, S, r, S', s, e, p⟩ => by
    have e : (match lckV ix σv S with
      | some (k, t, kvs) => (noX (exe cl ir σv (S.set k (.lck t kvs)))).bind fun f s => unlF f (s.set k (.dct t kvs))
      | none => Out.bad) = .ok r S' := e
    split at e
    · rename_i k t kvs el
      obtain ⟨d, u, xs, l⟩ := lck_at s el
      refine ⟨d, u, l.hd, l.mu, fun od => ?_⟩
      obtain ⟨x1, s1⟩ := l.lock s od
      obtain ⟨f, S1, e1, e2⟩ := Out.bind_eq_ok e
      have e1 := noX_eq e1
      refine ⟨m, σv, _, f, S1, s1, e1, ?_⟩
      unfold unlF at e2
      split at e2
      · cases e2
      · rename_i f hne
        cases e2
        cases r with
        | nx σ1 =>
          intro m' H' σ' x2 s2
          obtain ⟨g1, g2, g3, g4, g5⟩ := l.unlock x2 s2.h
          exact ⟨g1, p m' _ σ' g2 ⟨g3, g5 s2.e⟩⟩
        | ct σ1 =>
          intro m' H' σ' x2 s2
          obtain ⟨g1, g2, g3, g4, g5⟩ := l.unlock x2 s2.h
          exact ⟨g1, p m' _ σ' g2 ⟨g3, g5 s2.e⟩⟩
        | bk σ1 =>
          intro m' H' σ' x2 s2
          obtain ⟨g1, g2, g3, g4, g5⟩ := l.unlock x2 s2.h
          exact ⟨g1, p m' _ σ' g2 ⟨g3, g5 s2.e⟩⟩
        | rt v =>
          intro m' H' y x2 h2 r2
          obtain ⟨g1, g2, g3, g4, g5⟩ := l.unlock x2 h2
          exact ⟨g1, p m' _ y g2 g3 (g4 r2)⟩
        | xc v σ1 => exact (hne v σ1 rfl).elim
    · cases e
def Lens (S : Hs) (xs : List VV) (ls : List Nat) : Prop := ls.length = xs.length ∧ ∀ (i : Nat) (x : VV), xs[i]? = some x → ∃ ys, lstOf S x = some ys ∧ ls[i]? = some ys.length
theorem Lens.cons {S : Hs} {x : VV} {xs ys : List VV} {ls : List Nat} (h : lstOf S x = some ys) (l : Lens S xs ls) : Lens S (x :: xs) (ys.length :: ls) := by
  refine ⟨by rw [List.length_cons, List.length_cons, l.1], fun i z hz => ?_⟩
  cases i with
  | zero =>
    simp only [List.getElem?_cons_zero, Option.some.injEq] at hz ⊢
    subst hz
    exact ⟨ys, h, rfl⟩
  | succ i => exact l.2 i z (by simpa using hz)
theorem minGo_ok {S : Hs} : ∀ {xs : List VV} {b z : VV} {n : Nat}, minGo S b n xs = some z → ∃ ls, Lens S xs ls ∧ ((z = b ∧ ∀ j, j < ls.length → n ≤ ls.getD j 0) ∨ ∃ i, xs[i]? = some z ∧ ls.getD i 0 < n ∧ IsMin ls i)
  | [], b, z, n, h => by
    cases h
    exact ⟨[], ⟨rfl, fun i x h => by simp at h⟩, .inl ⟨rfl, fun j h => by simp at h⟩⟩
  | x :: xs, b, z, n, h => by
    unfold minGo at h
    split at h
    · rename_i ys hy
      split at h
      · rename_i hlt
        obtain ⟨ls, l, q⟩ := minGo_ok h
        refine ⟨ys.length :: ls, l.cons hy, .inr ?_⟩
        rcases q with ⟨rfl, q⟩ | ⟨i, q1, q2, q3⟩
        · refine ⟨0, rfl, hlt, fun j hj => ⟨?_, fun z => absurd z (Nat.not_lt_zero _)⟩⟩
          cases j with
          | zero => exact Nat.le_refl _
          | succ j => simpa using q j (by simpa using hj)
        · refine ⟨i + 1, by simpa using q1, by simpa using Nat.lt_trans q2 hlt, fun j hj => ?_⟩
          cases j with
          | zero => exact ⟨by simpa using Nat.le_of_lt q2, fun _ => by simpa using q2⟩
          | succ j =>
            obtain ⟨a1, a2⟩ := q3 j (by simpa using hj)
            exact ⟨by simpa using a1, fun z => by simpa using a2 (by omega)⟩
      · rename_i hlt
        obtain ⟨ls, l, q⟩ := minGo_ok h
        refine ⟨ys.length :: ls, l.cons hy, ?_⟩
        rcases q with ⟨rfl, q⟩ | ⟨i, q1, q2, q3⟩
        · refine .inl ⟨rfl, fun j hj => ?_⟩
          cases j with
          | zero => simpa using Nat.le_of_not_lt hlt
          | succ j => simpa using q j (by simpa using hj)
        · have q4 : ls.getD i 0 < ys.length := by omega
          refine .inr ⟨i + 1, by simpa using q1, by simpa using q2, fun j hj => ?_⟩
          cases j with
          | zero => exact ⟨by simpa using Nat.le_of_lt q4, fun _ => by simpa using q4⟩
          | succ j =>
            obtain ⟨a1, a2⟩ := q3 j (by simpa using hj)
            exact ⟨by simpa using a1, fun z => by simpa using a2 (by omega)⟩
    · cases h
theorem minBy_ok {S : Hs} {xs : List VV} {z : VV} (h : minBy S xs = some z) : ∃ ls, Lens S xs ls ∧ ∃ i, xs[i]? = some z ∧ IsMin ls i := by
  cases xs with
  | nil => cases h
  | cons x xs =>
    have h : (match lstOf S x with
      | some ys => minGo S x ys.length xs
      | none => none) = some z := h
    split at h
    · rename_i ys hy
      obtain ⟨ls, l, q⟩ := minGo_ok h
      refine ⟨ys.length :: ls, l.cons hy, ?_⟩
      rcases q with ⟨rfl, q⟩ | ⟨i, q1, q2, q3⟩
      · refine ⟨0, rfl, fun j hj => ⟨?_, fun z => absurd z (Nat.not_lt_zero _)⟩⟩
        cases j with
        | zero => exact Nat.le_refl _
        | succ j => simpa using q j (by simpa using hj)
      · refine ⟨i + 1, by simpa using q1, fun j hj => ?_⟩
        cases j with
        | zero => exact ⟨by simpa using Nat.le_of_lt q2, fun _ => by simpa using q2⟩
        | succ j =>
          obtain ⟨a1, a2⟩ := q3 j (by simpa using hj)
          exact ⟨by simpa using a1, fun z => by simpa using a2 (by omega)⟩
    · cases h
theorem isMin_uniq {ls : List Nat} {i j : Nat} (hi : i < ls.length) (hj : j < ls.length) (a : IsMin ls i) (b : IsMin ls j) : i = j := by
  rcases Nat.lt_trichotomy i j with h | h | h
  · have := (b i hi).2 h
    have := (a j hj).1
    omega
  · exact h
  · have := (a j hj).2 h
    have := (b i hi).1
    omega
theorem se_minLen {e : Expr} {ir : Ex} {p p2 pos kp : Pos} (hc : X.calm = true) (hg : Gl X "min") (hm : X.mg "min" = none) (hg2 : Gl X "len") (hm2 : X.mg "len" = none) (hn : notStar e = true) (he : SE X w cl e ir) :
    SB X w cl (.Call (.Name "min" p) [e] [⟨some "key", .Name "len" p2, kp⟩] pos) (.bi false .minLen [ir]) := by
  refine sb_of (PE.imp (pe_minLen hc hg hm hg2 hm2 he (star_cons hn)) fun σ H Q ⟨m, σv, S, s, q⟩ => ?_) fun _ => rfl
  have q : Res X.K w m H σ ((ev cl ir σv S).bind fun v s => lift ((lstOf s v).bind fun xs => minBy s xs) s) fun x S' => Post X.K m H x S' Q := by
    have e : (ev cl (.bi false .minLen [ir]) σv S) = (ev cl ir σv S).bind fun v s => lift ((lstOf s v).bind fun xs => minBy s xs) s := by
      show ((ev cl ir σv S).bind fun v s => (Out.ok [] s).bind fun vs s => .ok (v :: vs) s).bind _ = _
      rw [Out.bind_assoc]
      rfl
    rw [← e]; exact q
  refine rd_then s (q.bind.imp fun x S1 q1 m1 H1 v x1 s1 r1 => ?_)
  obtain ⟨z, S', e1, p⟩ := q1.ok (lift_noX _ _)
  obtain ⟨e2, rfl⟩ := lift_eq_ok e1
  obtain ⟨xs, hx, hmin⟩ := Option.bind_eq_some_iff.mp e2
  obtain ⟨a, ys, rfl, ha, t⟩ := lst_rd s1.h r1 hx
  obtain ⟨ls, l, i, hi, him⟩ := minBy_ok hmin
  have ll := t.length
  have hil := (List.getElem?_eq_some_iff.mp hi).1
  refine ⟨a, ys, ls, rfl, SqL.of ha, by omega, by rw [l.1, ll], fun j u hj => ?_, fun j u hj hjm => ?_⟩
  · have hjl := (List.getElem?_eq_some_iff.mp hj).1
    obtain ⟨us, h1, h2⟩ := l.2 j xs[j] (List.getElem?_eq_getElem (by omega))
    obtain ⟨u', hu', ru⟩ := t.get (List.getElem?_eq_getElem (show j < xs.length by omega))
    rw [hj] at hu'
    cases hu'
    obtain ⟨b, ws, rfl, hb, tb⟩ := lst_rd s1.h ru h1
    exact ⟨b, ws, rfl, SqL.of hb, by rw [h2, tb.length]⟩
  · have hjl := (List.getElem?_eq_some_iff.mp hj).1
    have eij := isMin_uniq (by rw [l.1]; omega) (by rw [l.1]; omega) him hjm
    subst eij
    obtain ⟨u', hu', ru⟩ := t.get hi
    rw [hj] at hu'
    cases hu'
    exact p m1 H1 _ x1 s1.h ru
theorem s1_nc {i : Nat} {y : Str} {py : Pos} {kx vx tg iter : Expr} {ifs : List Expr} {scope : Scope} {own : List (Str × Nat)} {pos spos : Pos} {d : Bool} {ik iv : Ex} {t : Tg} {it : It} {cs : List Ex} (hu : X.A.units + 65 < cLine) (hc : X.calm = true) (hN : X.N.Nodup) (hy : X.N[i]? = some y) (hyl : X.env.scope.names.lookup y = some .local)
    (hsw : swapsWith (.DictComp kx vx [⟨tg, iter, ifs, 0⟩] scope pos) (some (.Name y py)) spos.line X.env = pure true) (hi : SI X w cl tg iter it) (hs : notSet iter = true) (ok : BlkOk X.N X.env.scope scope own) (ht : ∀ i ∈ tvs t, i ∈ own.map (·.2))
    (hb : ∀ (s : Shared) (H : Hp) (C : Addr) (cell : List (Str × Addr)) (fp : List Addr), PG (X.blk s H scope (compEnvC scope cell C X.env) fp) tg (rdG X.K t) ∧ STs (X.blk s H scope (compEnvC scope cell C X.env) fp) w.shut cl ifs cs ∧ SE (X.blk s H scope (compEnvC scope cell C X.env) fp) w.shut cl kx ik ∧ SE (X.blk s H scope (compEnvC scope cell C X.env) fp) w.shut cl vx iv) :
    S1 X w cl (.Assign [.Name y py] (.DictComp kx vx [⟨tg, iter, ifs, 0⟩] scope pos) spos) (.asg (.var i) (.dcomp d true ik iv t it cs (own.map (·.2)))) :=
  PS.imp (ps_setNc (g := rdG X.K t) (tt := rdT X.K w.shut (evC cl cs)) (tk := rdE X.K w.shut (ev cl ik)) (tv := rdE X.K w.shut (ev cl iv)) hu hc hN hy hyl hsw hi ok (fun s H C c fp => (hb s H C c fp).1) (fun s H C c fp => (hb s H C c fp).2.1) (fun s H C c fp => (hb s H C c fp).2.2.1) (fun s H C c fp => (hb s H C c fp).2.2.2) fun x => notSet_ok hs _ x) fun D σ H ⟨m, σv, S, r, S', s, e1, p⟩ => by
    have e1 : cat σv ((ev cl (.dcomp d true ik iv t it cs (own.map (·.2))) σv S).bind fun v s => lift ((asg (.var i) v σv).map Fl.nx) s) = .ok r S' := e1
    refine dc_rd (t := true) ht (d := d) (Q := fun x H1 => gName i x σ H1 D.nx) ⟨m, σv, S, s, (cat_ok e1 s p).imp fun v Sa e2 m1 H1 u x1 h1 r1 => ?_⟩
    cases e2
    exact p m1 H1 _ x1 ⟨h1, (s.e.ext x1).set r1 i⟩
theorem pe_dnewN {pos : Pos} : PE X (.Dict [] [] pos) (fun _ H Q => ∀ N, H N = none → Q (.ref N) (upd H N (dicO N []))) := by
  refine ⟨fun pins s σ H Q I h => ?_⟩
  refine wpAny_Dict_empty ⟨.ref s.heap.objs.size, _, I.laid (a := s.heap.objs.size) (o := dicO s.heap.objs.size []) (t' := s.toks) (fun _ _ q => Heap.get?_push_of_some _ q) (Nat.le_refl _) (dicO_new (dicR_empty s.heap I.big)), rfl, h _ (I.hok.fresh (Nat.le_refl _))⟩
theorem se_dnew {d t : Bool} {pos : Pos} : SB X w cl (.Dict [] [] pos) (.dnew d t) := by
  cases t with
  | false =>
    refine sb_of (PE.imp pe_dnewK fun σ H Q ⟨m, σv, S, s, q⟩ => ?_) fun _ => rfl
    have q : Res X.K w m H σ (mkD d false [] S) fun x S' => Post X.K m H x S' Q := q
    obtain ⟨z, S', e, p⟩ := q.ok (mkD_noX _ _ _ _)
    exact post_mkD (o := fun _ => .dK []) s.h (fun q => .inl ⟨rfl, [], rfl, rfl⟩) .nil e p
  | true =>
    refine sb_of (PE.imp pe_dnewN fun σ H Q ⟨m, σv, S, s, q⟩ => ?_) fun _ => rfl
    have q : Res X.K w m H σ (mkD d true [] S) fun x S' => Post X.K m H x S' Q := q
    obtain ⟨z, S', e, p⟩ := q.ok (mkD_noX _ _ _ _)
    exact post_mkD (o := fun q => dicO q []) s.h (fun q => .inr ⟨rfl, [], rfl, rfl⟩) .nil e p
end
end Tw
set_option Elab.async false
set_option linter.all false
set_option autoImplicit false
set_option maxRecDepth 100000
namespace Tw
open PySem PySem.Spec PyProof.Rows L2
def insAll (K : PySem.W.Frag) (t : Bool) (N : Ad) : List (V × V) → Hp → (Hp → Prop) → Prop
  | [], H, Nx => Nx H
  | (y, z) :: r, H, Nx => insD K t N H y z fun H' => insAll K t N r H' Nx
def tLit (K : PySem.W.Frag) (t : Bool) (trs : List (TE × TE)) : TE := fun σ H Q => ∀ N, H N = none → tPairs trs σ (upd H N (empD t N)) fun ps H2 => insAll K t N ps H2 fun H3 => Q (.ref N) H3
section
variable {X : Cx}
theorem storeAll_run {t : Bool} {N : Ad} {pins : List (Addr × Obj)} {σ : L2.St} {E : Value → Shared → Prop} {Nx : Hp → Prop} (hu : X.A.units + 65 < cLine) : ∀ (ps : List (V × V)) (vs : List (Value × Value)) (s : Shared) (H : Hp), Inv X pins σ H s → L2.VV ps vs → insAll X.K t N ps H Nx →
    wpAny (model X.prog X.w) X.A (forIn vs PUnit.unit fun (x : Value × Value) (_ : PUnit) => (do dictSet N x.1 x.2; pure (ForInStep.yield PUnit.unit) : Sem (ForInStep PUnit))) (fun _ s' => ∃ H', Inv X pins σ H' s' ∧ Nx H') E s
  | [], _, s, H, I, r, h => by
    cases r
    rw [List.forIn_nil]
    exact wpAny_pure ⟨H, I, h⟩
  | p :: ps, _, s, H, I, r, h => by
    cases r with
    | @cons a b as bs r1 rs =>
      obtain ⟨y, z⟩ := p
      rw [List.forIn_cons]
      have h : insD X.K t N H y z fun H' => insAll X.K t N ps H' Nx := h
      unfold insD at h
      cases t with
      | true =>
        rw [if_pos rfl] at h
        obtain ⟨Hh, g, nx⟩ := h
        refine wpAny_bind (wpAny_bind (n_put hu I g r1.1 r1.2 fun s' I' => wpAny_pure ?_))
        exact storeAll_run hu ps bs s' Hh I' rs nx
      | false =>
        rw [if_neg (by decide)] at h
        obtain ⟨us, j, rfl, e, hl, nx⟩ := h
        refine wpAny_bind (wpAny_bind (d_dictSet I e hl r1.1 r1.2 fun s' I' => wpAny_pure ?_))
        exact storeAll_run hu ps bs s' _ I' rs nx
theorem emp_laid {t : Bool} {H : Hp} (h : Heap) (hb : sysModules < h.objs.size) : ObjOk X.prog X.w H (h.push { cls := .type "dict", data := .dict #[] }) h.objs.size (empD t h.objs.size) := by
  cases t with
  | true => exact dicO_new (dicR_empty h hb)
  | false => exact dk_empty h hb
theorem pe_lit {t : Bool} {pos : Pos} {keys : List (Option Expr)} {values : List Expr} {trs : List (TE × TE)} (hu : X.A.units + 65 < cLine) (h : PPs X pos keys values trs) (hall : keys.all (·.isSome) = true) (hl : keys.length = values.length) (h0 : keys ≠ [])
    (h15 : keys.length ≤ 15) : PE X (.Dict keys values pos) (tLit X.K t trs) := by
  refine ⟨fun pins s σ H Q I q => ?_⟩
  have hn := I.hok.fresh (Nat.le_refl s.heap.objs.size)
  have I1 := I.laid (a := s.heap.objs.size) (o := empD t s.heap.objs.size) (h' := s.heap.push { cls := .type "dict", data := .dict #[] }) (t' := s.toks) (fun _ _ q => Heap.get?_push_of_some _ q) (Nat.le_refl _) (emp_laid s.heap I.big)
  have hpl := pairTrees_length keys values X.env pos hall hl
  have hpn : pairTrees keys values X.env pos ≠ [] := fun he => by
    rw [he] at hpl
    exact h0 (List.length_eq_zero_iff.mp hpl.symm)
  rw [arm_eval_Dict, zip_pairTrees keys values X.env pos hall hl, dictDisplay_pairs _ hpn (by omega)]
  refine wpAny_bind (wpAny_standAt (wpAny_bind ?_))
  unfold subDict
  refine wpAny_bind (wpAny_alloc ?_)
  refine wpAny_bind (wpAny_holding ?_)
  rw [if_pos (by omega)]
  refine wpAny_bind (thn (h.run pins _ σ _ _ I1 (q _ hn)) fun ws s2 ⟨ps, H2, I2, rel, ins⟩ => ?_)
  refine wpAny_holding ?_
  refine wpAny_bind (wpAny_mono (storeAll_run hu ps ws s2 H2 I2 rel ins) (fun _ s3 ⟨H3, I3, q3⟩ => ?_) fun _ _ e => e)
  exact wpAny_pure (wpAny_pure (wpAny_pure ⟨.ref s.heap.objs.size, H3, I3, rfl, q3⟩))
end
def PrsR (K : PySem.W.Frag) (m : Mp) (H : Hp) : List VV → List (V × V) → Prop
  | [], [] => True
  | x :: y :: vs, (u, v) :: ws => R K m H x u ∧ R K m H y v ∧ PrsR K m H vs ws
  | _, _ => False
section
variable {K : PySem.W.Frag} {w : Wish} {cl : Cl}
theorem PrsR.put {m : Mp} {d : Ad} {H : Hp} {o : HO} : ∀ {vs : List VV} {ws : List (V × V)}, PrsR K (m.apart d) H vs ws → PrsR K (m.apart d) (upd H d o) vs ws
  | [], [], _ => trivial
  | x :: y :: vs, (u, v) :: ws, h => ⟨h.1.put, h.2.1.put, PrsR.put h.2.2⟩
  | [_], _, h => by cases h
  | [], _ :: _, h => h.elim
  | _ :: _ :: _, [], h => h.elim
def flatE (irs : List (Ex × Ex)) : List Ex := irs.flatMap fun p => [p.1, p.2]
theorem lit_rd {d t : Bool} {irs : List (Ex × Ex)} {σ : L2.St} {H0 : Hp} {Q : VK} (q : rdE K w (ev cl (.dlit d t (flatE irs))) σ H0 Q) :
    tLit K t (irs.map fun p => (rdE K w (ev cl p.1), rdE K w (ev cl p.2))) σ H0 Q := by
  obtain ⟨m, σv, S, st, q⟩ := q
  have q : Res K w m H0 σ ((noX (evs cl (flatE irs) σv S)).bind fun vs s => (lift ((pairUp vs).bind fun ps => putAll t ps []) s).bind fun kvs s => mkD d t kvs s) fun x S' => Post K m H0 x S' Q := q
  obtain ⟨x, S', e, p⟩ := q.ok (bind_noX (noX_noX _) fun x s => bind_noX (lift_noX _ _) fun kvs s => mkD_noX _ _ _ _)
  obtain ⟨vs, Sf, e1, e2⟩ := Out.bind_eq_ok e
  have e1 := noX_eq e1
  obtain ⟨kvs, Sg, e3, e4⟩ := Out.bind_eq_ok e2
  obtain ⟨e3', rfl⟩ := lift_eq_ok e3
  obtain ⟨ps, hp, e5⟩ := Option.bind_eq_some_iff.mp e3'
  intro N hN
  have hDm : N ∉ m.av := fun z => (st.h.apart N z).2 hN
  -- the pairs, one behind the other
  have main : ∀ (irs : List (Ex × Ex)) (vs : List VV) (M : Mp) (H' : Hp) (S2 : Hs), M.av = m.av → Ext m H0 M H' → SimH K (M.apart N) H' S2 → SimE K (M.apart N) H' σv σ → H' N = some (empD t N) → evs cl (flatE irs) σv S2 = .ok vs Sg → ∀ G : List (V × V) → Hp → Prop,
      (∀ M2 H2 ws, M2.av = m.av → Ext m H0 M2 H2 → Ext (M.apart N) H' (M2.apart N) H2 → SimH K (M2.apart N) H2 Sg → H2 N = some (empD t N) → PrsR K (M2.apart N) H2 vs ws → G ws H2) → tPairs (irs.map fun p => (rdE K w (ev cl p.1), rdE K w (ev cl p.2))) σ H' G := by
    intro irs
    induction irs with
    | nil =>
      intro vs M H' S2 hav ex sh se hd ee G hG
      cases ee
      exact hG M H' [] hav ex Ext.refl sh hd trivial
    | cons i irs ih =>
      intro vs M H' S2 hav ex sh se hd ee G hG
      obtain ⟨ik, iv⟩ := i
      obtain ⟨kk, S3, e9, ee⟩ := Out.bind_eq_ok (show (ev cl ik σv S2).bind _ = _ from ee)
      obtain ⟨vs1, S4, ee, e10⟩ := Out.bind_eq_ok ee
      cases e10
      obtain ⟨vv, S5, e11, ee⟩ := Out.bind_eq_ok (show (ev cl iv σv S3).bind _ = _ from ee)
      obtain ⟨vs2, S6, ee, e12⟩ := Out.bind_eq_ok ee
      cases e12
      have hDi : N ∉ M.ix := (sh.apart N List.mem_cons_self).1
      refine ⟨M.apart N, σv, S2, ⟨sh, se⟩, ?_⟩
      rw [e9]
      refine Res.mk ?_
      intro m6 H6 u x6 s6 r6
      refine ⟨m6, σv, S3, ⟨s6, se.ext x6⟩, ?_⟩
      rw [e11]
      refine Res.mk ?_
      intro m7 H7 u2 x7 s7 r7
      have x8 := x6.trans x7
      obtain ⟨M', rfl, hav', x9⟩ := x8.unapart
      have hd7 : H7 N = some (empD t N) := x8.keep N _ hd hDi
      refine ih vs2 M' H7 S5 (hav'.trans hav) (ex.trans x9) s7 (se.ext x8) hd7 ee _ fun M2 H2 ws h1 h2 h3 h4 h5 h6 => ?_
      exact hG M2 H2 ((u, u2) :: ws) h1 h2 (x8.trans h3) h4 h5 ⟨r6.ext (x7.trans h3), r7.ext h3, h6⟩
  refine main irs vs m (upd H0 N (empD t N)) S rfl (Ext.refl.upd_new hN) (st.h.aside hN) (SimE.aside hN st.e) upd_same e1 _ fun M2 H2 ws hav ex _ sh hd pr => ?_
  -- then all are stored
  have stores : ∀ (vs : List VV) (ws : List (V × V)) (ps : List VV) (acc : List (VV × VV)) (xs : List (DK × V)) (o : HO) (H2 : Hp), pairUp vs = some ps → putAll t ps acc = some kvs → Ext m H0 M2 H2 → SimH K (M2.apart N) H2 Sg → H2 N = some o → dcO N t xs o → Rp K (M2.apart N) H2 acc xs → PrsR K (M2.apart N) H2 vs ws → insAll K t N ws H2 fun H3 => Q (.ref N) H3 := by
    intro vs
    induction vs using pairUp.induct with
    | case1 =>
      intro ws ps acc xs o H2 hp er ex sh hd hdc ra pr
      cases ws with
      | cons _ _ => exact pr.elim
      | nil =>
        cases hp
        have er : some acc = some kvs := er
        cases er
        have hDi : N ∉ M2.ix := (sh.apart N List.mem_cons_self).1
        have hDM : N ∉ M2.av := by rw [hav]; exact hDm
        show Q (.ref N) H2
        unfold mkD at e4
        cases d with
        | true =>
          cases e4
          refine p (M2.push N) H2 _ (ex.adopt hN) (sh.adoptO hDM ⟨xs, o, hd, hdc, ra.adopt⟩) (.ref ?_)
          show (M2.ix ++ [N])[_]? = some N
          rw [← show M2.ix.length = _ from sh.len]
          simp
        | false =>
          cases e4
          exact p M2 H2 _ ex sh.back (.dct hd ⟨hDi, hDM⟩ hdc ra.back)
    | case2 k v r ih =>
      intro ws ps acc xs o H2 hp er ex sh hd hdc ra pr
      cases ws with
      | nil => exact pr.elim
      | cons c ws =>
        obtain ⟨u, u2⟩ := c
        obtain ⟨r6, r7, pr⟩ := pr
        unfold pairUp at hp
        obtain ⟨ps', hp', rfl⟩ := Option.map_eq_some_iff.mp hp
        obtain ⟨dk, k1, k2, k3, k4⟩ := putAll_cons er
        obtain ⟨o', xs', p1, p2, p3, p4⟩ := put_rd (K := K) (m := M2.apart N) (H := H2) (z := v) (v := u2) hd hdc ra r6 k1 k2 k3 r7
        have fine : ∀ o2, o2 = o' → insAll K t N ws (upd H2 N o2) fun H3 => Q (.ref N) H3 := fun o2 eo => by
          subst eo
          exact ih ws ps' _ xs' _ _ hp' k4 (ex.upd_new hN) sh.put upd_same p3 p4.put pr.put
        show insD K t N H2 u u2 _
        unfold insD
        cases t with
        | true =>
          rw [if_pos rfl]
          exact ⟨_, p1 rfl, fine _ rfl⟩
        | false =>
          rw [if_neg (by decide)]
          obtain ⟨us, j, f1, f2, f3, f4⟩ := p2 rfl
          exact ⟨us, j, f2, f1, f3, fine _ f4.symm⟩
    | case3 vs h1 h2 =>
      intro ws ps acc xs o H2 hp
      exfalso
      cases vs with
      | nil => exact h1 rfl
      | cons a l =>
        cases l with
        | nil => cases hp
        | cons b m => exact h2 a b m rfl
  exact stores vs ws ps [] [] (empD t N) H2 hp e5 ex sh hd (by
    cases t with
    | true => exact .inr ⟨rfl, [], rfl, rfl⟩
    | false => exact .inl ⟨rfl, [], rfl, rfl⟩) .nil pr
end
section
variable {X : Cx} {w : Wish} {cl : Cl}
def LitOk (X : Cx) (w : Wish) (cl : Cl) : List (Option Expr) → List Expr → List (Ex × Ex) → Prop
  | [], [], [] => True
  | some k :: ks, v :: vs, (ik, iv) :: r => SE X w cl k ik ∧ SE X w cl v iv ∧ LitOk X w cl ks vs r
  | _, _, _ => False
theorem lit_pps {pos : Pos} : ∀ {ks : List (Option Expr)} {vs : List Expr} {r : List (Ex × Ex)}, LitOk X w cl ks vs r → PPs X pos ks vs (r.map fun p => (rdE X.K w (ev cl p.1), rdE X.K w (ev cl p.2))) ∧ ks.all (·.isSome) = true ∧ ks.length = vs.length ∧ ks.length = r.length
  | [], [], [], _ => ⟨pps_nil, rfl, rfl, rfl⟩
  | some k :: ks, v :: vs, (ik, iv) :: r, h => by
    obtain ⟨a1, a2, a3, a4⟩ := lit_pps (pos := pos) h.2.2
    exact ⟨pps_cons h.1 h.2.1 a1, by rw [List.all_cons, a2]; rfl, by rw [List.length_cons, List.length_cons, a3], by rw [List.length_cons, List.length_cons, a4]⟩
  | [], _ :: _, _, h => h.elim
  | [], [], _ :: _, h => h.elim
  | none :: _, _, _, h => h.elim
  | some _ :: _, [], _, h => h.elim
  | some _ :: _, _ :: _, [], h => h.elim
theorem se_dlit {d t : Bool} {pos : Pos} {ks : List (Option Expr)} {vs : List Expr} {r : List (Ex × Ex)} (hu : X.A.units + 65 < cLine) (h : LitOk X w cl ks vs r) (h0 : r ≠ []) (h15 : r.length ≤ 15) : SB X w cl (.Dict ks vs pos) (.dlit d t (flatE r)) := by
  obtain ⟨a1, a2, a3, a4⟩ := lit_pps (pos := pos) h
  have k0 : ks ≠ [] := fun e => by
    rw [e] at a4
    exact h0 (List.length_eq_zero_iff.mp a4.symm)
  exact sb_of (PE.imp (pe_lit hu a1 a2 a3 k0 (by omega)) fun σ H Q q => lit_rd q) fun _ => rfl
end
end Tw
set_option Elab.async false
set_option linter.all false
set_option autoImplicit false
set_option maxRecDepth 100000
namespace Tw
open PySem PySem.Spec PyProof.Rows L2
open PySem.W (EachIs AllAlike Sortable alike dataLe)
inductive KeyT (K : PySem.W.Frag) (H : Hp) : List V → List Int → Prop
  | nil : KeyT K H [] []
  | cons {t : Ad} {ns : List Int} {ys : List V} {ks : List Int} (h : SqT K H t (ns.map V.int)) (r : KeyT K H ys ks) : KeyT K H (.ref t :: ys) (ns.sum :: ks)
theorem KeyT.length {K : PySem.W.Frag} {H : Hp} : ∀ {ys : List V} {ks : List Int}, KeyT K H ys ks → ys.length = ks.length
  | _, _, .nil => rfl
  | _, _, .cons _ r => by rw [List.length_cons, List.length_cons, r.length]
section
variable {X : Cx} {pins : List (Addr × Obj)} {σ : L2.St} {H : Hp} {s : Shared}
theorem keyT_each (I : Inv X pins σ H s) : ∀ {ys : List V} {ks : List Int} {us : List Value}, KeyT X.K H ys ks → Vals ys us → EachIs (fun u (b : V × Int) => RelV b.1 u ∧ ∃ (t : Ad) (its : List Value) (ns : List Int), u = .ref t ∧ s.heap.IsTuple t its.toArray ∧ IntsAre its ns ∧ ns.sum = b.2) us (ys.zip ks)
  | _, _, _, .nil, .nil => .nil
  | _, _, _, .cons (t := t) h r, .cons r1 r2 => by
    obtain ⟨its, rv, hl, hz⟩ := I.tuple h
    exact .cons ⟨r1, t, its, _, r1, hl, rv.ints, rfl⟩ (keyT_each I r r2)
theorem byLe_data {β : Type} (k : β → Int) (rev : Bool) : dataLe rev (fun b => .int (k b)) = fun a b => byLe rev (k a) (k b) := by
  cases rev with
  | false => rw [PySem.W.dataLe_int]; rfl
  | true => rw [PySem.W.dataGe_int]; rfl
def rSumS (K : PySem.W.Frag) (rev : Bool) (x : V) (H : Hp) (Q : VK) : Prop := ∃ (a : Ad) (ys : List V) (ks : List Int), x = V.ref a ∧ SqL K H a ys ∧ KeyT K H ys ks ∧ ∀ p, H p = none → Q (.ref p) (upd H p (.lst (((ys.zip ks).mergeSort fun a b => byLe rev a.2 b.2).map Prod.fst)))
theorem run_sumS {x : V} {u : Value} {rev : Bool} {kw : List (Str × Value)} {Q : VK} (hu : X.A.units + 100 < cLine) (hc : X.calm = true) (I : Inv X pins σ H s) (ru : RelV x u) (h : rSumS X.K rev x H Q) (ha1 : ∀ l, argsOk "sorted" ⟨[.ref l], kw⟩) (ha2 : ∀ x, argsOk "list.sort" ⟨[.ref x], kw⟩)
    (ht : ∀ x, Builtin.«list.sort» ⟨[.ref x], kw⟩ = ksk_tree x (.builtin "sum") rev) :
    wpAny (model X.prog X.w) X.A (call (.builtin "sorted") [u] kw) (EP X pins σ Q) X.xe s := by
  obtain ⟨a, ys, ks, rfl, hs, hk, q⟩ := h
  obtain rfl : u = Value.ref a := ru
  obtain ⟨its, rv, hl, hz⟩ := I.list hs
  have hlen := hk.length
  have hh : X.A.handled = none := I.ok.hd hc
  refine PySem.W.sorted_key_data (bs := ys.zip ks) (k := fun b => .int b.2) (R := fun u (b : V × Int) => RelV b.1 u ∧ ∃ (t : Ad) (its : List Value) (ns : List Int), u = .ref t ∧ s.heap.IsTuple t its.toArray ∧ IntsAre its ns ∧ ns.sum = b.2) (b := rev) hl.isList (keyT_each I hk rv)
    (AllAlike.of fun _ _ => rfl) (Sortable.others fun _ => ⟨by simp, by simp⟩) (by rw [List.length_zip]; omega) (fun b _ => by show X.A.units + 2 + 0 < cLine; omega) (ha1 a) ha2 ht ?_ ?_
  · intro v b hR _ h tk kp
    obtain ⟨_, t, its2, ns, rfl, hl2, hi, e⟩ := hR
    obtain ⟨xs, ex⟩ := hi.allInts.items
    have hn : numsOf (intItems xs).toList = ns := by rw [← ex]; exact hi.numsOf
    rw [nums_intItems] at hn
    rw [ex] at hl2
    refine PySem.W.ktm_sumG hh (hl2.at fun o e => kp _ o e) fun h' tk' t' hk' => ⟨h', tk', rfl, hk', ?_⟩
    have : PySem.preSum (PySem.numAt xs) xs.size = b.2 := by
      rw [← e, preSum_eq, List.take_of_length_le (by simp), hn]
    rw [this]
    exact .int _ _
  · intro out c h' tk kp hfr he hl3 eo
    rw [byLe_data (fun b : V × Int => b.2) rev] at eo
    have vs : Vals (((ys.zip ks).mergeSort fun a b => byLe rev a.2 b.2).map Prod.fst) out := each_vals (eo.mono fun _ _ h => h.1)
    have hz' : (((ys.zip ks).mergeSort fun a b => byLe rev a.2 b.2).map Prod.fst).length ≤ sizeLine := by
      rw [vs.length, hl3, List.length_zip]
      omega
    exact ⟨.ref _, upd H (s.heap.objs.size + 1) (.lst (((ys.zip ks).mergeSort fun a b => byLe rev a.2 b.2).map Prod.fst)), I.laid (t' := tk) kp (Nat.le_succ _) ⟨hz', out, c, vs, he⟩, rfl, q _ (I.hok.fresh (Nat.le_succ _))⟩
end
section
variable {X : Cx} {pins : List (Addr × Obj)} {σ : L2.St} {H : Hp} {s : Shared}
def rSumD (K : PySem.W.Frag) (rev : Bool) (x : V) (H : Hp) (Q : VK) : Prop := ∃ (a : Ad) (ps : Prs) (ks : List Int), x = V.ref a ∧ H a = some (dicO a ps) ∧ KeyT K H (ps.map fun x => V.ref x.2.1) ks ∧ ∀ p, H p = none → Q (.ref p) (upd H p (.lst ((((ps.map fun x => V.ref x.2.1).zip ks).mergeSort fun a b => byLe rev a.2 b.2).map Prod.fst)))
theorem run_sumD {x : V} {u : Value} {rev : Bool} {kw : List (Str × Value)} {Q : VK} (hu : X.A.units + 100 < cLine) (hc : X.calm = true) (I : Inv X pins σ H s) (ru : RelV x u) (h : rSumD X.K rev x H Q) (ha1 : ∀ l, argsOk "sorted" ⟨[.ref l], kw⟩) (ha2 : ∀ x, argsOk "list.sort" ⟨[.ref x], kw⟩)
    (ht : ∀ x, Builtin.«list.sort» ⟨[.ref x], kw⟩ = ksk_tree x (.builtin "sum") rev) :
    wpAny (model X.prog X.w) X.A (call (.builtin "sorted") [u] kw) (EP X pins σ Q) X.xe s := by
  obtain ⟨a, ps, ks, rfl, e, hk, q⟩ := h
  obtain rfl : u = Value.ref a := ru
  obtain ⟨o, es, ep, hs, hx, hdt, ho, hz, hv⟩ := keys_of I e
  have hh : X.A.handled = none := I.ok.hd hc
  refine sorted_of_collect (ha1 a) fun E' => collect_src (kdl_raw hs hx hdt) hh ho hz fun h' tk acc kp hsz it => ⟨?_, fun E'' => ?_⟩
  · rw [Array.length_toList, it.1]
    exact hz
  · have rv := hv acc it
    have I1 : Inv X pins σ H { s with heap := h'.push (seqObj "list" acc.toList.toArray 0), toks := tk } := I.kept fun b ob q => Heap.get?_push_of_some _ (kp b ob q)
    have hlen := hk.length
    have hD : (h'.push (seqObj "list" acc.toList.toArray 0)).get? h'.objs.size = some (seqObj "list" acc.toList.toArray 0) := Heap.get?_push_size _ rfl
    refine PySem.W.list_sort_key_data (bs := (ps.map fun x => V.ref x.2.1).zip ks) (k := fun b => .int b.2) (R := fun u (b : V × Int) => RelV b.1 u ∧ ∃ (t : Ad) (its : List Value) (ns : List Int), u = .ref t ∧ (h'.push (seqObj "list" acc.toList.toArray 0)).IsTuple t its.toArray ∧ IntsAre its ns ∧ ns.sum = b.2) (b := rev) hD (keyT_each I1 hk rv)
      (AllAlike.of fun _ _ => rfl) (Sortable.others fun _ => ⟨by simp, by simp⟩) ?_ (fun b _ => ?_) (ha2 _) (ht _) ?_ ?_
    · rw [List.length_zip, rv.length, Array.length_toList, it.1]
      omega
    · show X.A.units + 1 + 1 + 0 < cLine
      omega
    · intro v b hR _ h tk2 kb
      obtain ⟨_, t, its2, ns, rfl, hl2, hi, e⟩ := hR
      obtain ⟨xs, ex⟩ := hi.allInts.items
      have hn : numsOf (intItems xs).toList = ns := by rw [← ex]; exact hi.numsOf
      rw [nums_intItems] at hn
      rw [ex] at hl2
      have tD : t ≠ h'.objs.size := fun z => by
        obtain ⟨o2, g1, g2, _⟩ := hl2
        rw [z, hD] at g1
        cases g1
        exact absurd (show Value.type "list" = Value.type "tuple" from g2) (by decide)
      refine PySem.W.ktm_sumG hh (hl2.at fun o e => kb _ o tD e) fun h2 tk' t' hk' => ⟨h2, tk', rfl, hk', ?_⟩
      have : PySem.preSum (PySem.numAt xs) xs.size = b.2 := by
        rw [← e, preSum_eq, List.take_of_length_le (by simp), hn]
      rw [this]
      exact .int _ _
    · intro out c h2 tk2 kb he hl3 eo
      rw [byLe_data (fun b : V × Int => b.2) rev] at eo
      have vs : Vals ((((ps.map fun x => V.ref x.2.1).zip ks).mergeSort fun a b => byLe rev a.2 b.2).map Prod.fst) out := each_vals (eo.mono fun _ _ h => h.1)
      have hz' : ((((ps.map fun x => V.ref x.2.1).zip ks).mergeSort fun a b => byLe rev a.2 b.2).map Prod.fst).length ≤ sizeLine := by
        rw [vs.length, hl3, List.length_zip, rv.length, Array.length_toList, it.1]
        omega
      exact ⟨.ref _, upd H h'.objs.size (.lst _), I.laid (t' := tk2) (fun b ob hb => by
        have h1 := kp b ob hb
        exact kb b ob (Nat.ne_of_lt (Heap.lt_size h1)) (Heap.get?_push_of_some _ h1)) hsz ⟨hz', out, c, vs, he⟩, rfl, q _ (I.hok.fresh hsz)⟩
theorem run_sumX {x : V} {u : Value} {rev : Bool} {kw : List (Str × Value)} {Q : VK} (hu : X.A.units + 100 < cLine) (hc : X.calm = true) (I : Inv X pins σ H s) (ru : RelV x u) (h : rSumS X.K rev x H Q ∨ rSumD X.K rev x H Q) (ha1 : ∀ l, argsOk "sorted" ⟨[.ref l], kw⟩) (ha2 : ∀ x, argsOk "list.sort" ⟨[.ref x], kw⟩)
    (ht : ∀ x, Builtin.«list.sort» ⟨[.ref x], kw⟩ = ksk_tree x (.builtin "sum") rev) :
    wpAny (model X.prog X.w) X.A (call (.builtin "sorted") [u] kw) (EP X pins σ Q) X.xe s := by
  rcases h with h | h
  · exact run_sumS hu hc I ru h ha1 ha2 ht
  · exact run_sumD hu hc I ru h ha1 ha2 ht
end
section
variable {X : Cx}
theorem pe_sumS {e : Expr} {te : TE} {p p2 pos kp : Pos} (hu : X.A.units + 100 < cLine) (hc : X.calm = true) (hg : Gl X "sorted") (hm : X.mg "sorted" = none) (hg2 : Gl X "sum") (hm2 : X.mg "sum" = none) (he : PE X e te) (hst : starEach [e] X.env = (false, eval e X.env) :: starEach [] X.env) :
    PE X (.Call (.Name "sorted" p) [e] [⟨some "key", .Name "sum" p2, kp⟩] pos) (fun σ H Q => te σ H fun x H1 => rSumS X.K false x H1 Q ∨ rSumD X.K false x H1 Q) := by
  refine ⟨fun pins s σ H Q I h => ?_⟩
  have hv : bootBuiltins "sorted" = some (.builtin "sorted") := by decide +kernel
  have hv2 : bootBuiltins "sum" = some (.builtin "sum") := by decide +kernel
  refine wpAny_Call_Name_kw (ld_blt I hg hm hv ?_ (by decide) (by decide))
  have ha := (pa_cons he pa_nil hst).run pos pins s σ H (fun vs H1 => match vs with
    | [x] => rSumS X.K false x H1 Q ∨ rSumD X.K false x H1 Q
    | _ => False) I h
  refine PyProof.Rows.callWith_kw (thn ha fun us s1 ⟨vs, H1, I1, r1, q1⟩ => ?_) (by rw [hst]; rfl) (by rw [hst]; rfl) rfl rfl
  cases vs with
  | nil => exact False.elim q1
  | cons x vs =>
    cases vs with
    | cons _ _ => exact False.elim q1
    | nil =>
      obtain ⟨u, rfl, ru⟩ := r1.one
      refine wpAny_evalAll_cons (wpAny_bind (ld_blt I1 hg2 hm2 hv2 (wpAny_bind (wpAny_standAt (wpAny_pure (wpAny_evalAll_nil ?_)))) (by decide) (by decide)))
      exact run_sumX hu hc (I1.tok _) ru q1 (fun _ => ksk_s1 _ _) (fun _ => ksk_l1 _ _) fun x => ksk_t4 _ x
theorem pe_sumSR {e : Expr} {te : TE} {p p2 pos kp kp2 cp : Pos} {j : Nat} (hu : X.A.units + 100 < cLine) (hc : X.calm = true) (hg : Gl X "sorted") (hm : X.mg "sorted" = none) (hg2 : Gl X "sum") (hm2 : X.mg "sum" = none) (he : PE X e te) (hst : starEach [e] X.env = (false, eval e X.env) :: starEach [] X.env) :
    PE X (.Call (.Name "sorted" p) [e] [⟨some "key", .Name "sum" p2, kp⟩, ⟨some "reverse", .Constant (.bool true) j cp, kp2⟩] pos) (fun σ H Q => te σ H fun x H1 => rSumS X.K true x H1 Q ∨ rSumD X.K true x H1 Q) := by
  refine ⟨fun pins s σ H Q I h => ?_⟩
  have hv : bootBuiltins "sorted" = some (.builtin "sorted") := by decide +kernel
  have hv2 : bootBuiltins "sum" = some (.builtin "sum") := by decide +kernel
  refine wpAny_Call_Name_kw (ld_blt I hg hm hv ?_ (by decide) (by decide))
  have ha := (pa_cons he pa_nil hst).run pos pins s σ H (fun vs H1 => match vs with
    | [x] => rSumS X.K true x H1 Q ∨ rSumD X.K true x H1 Q
    | _ => False) I h
  refine PyProof.Rows.callWith_kw (thn ha fun us s1 ⟨vs, H1, I1, r1, q1⟩ => ?_) (by rw [hst]; rfl) (by rw [hst]; rfl) rfl rfl
  cases vs with
  | nil => exact False.elim q1
  | cons x vs =>
    cases vs with
    | cons _ _ => exact False.elim q1
    | nil =>
      obtain ⟨u, rfl, ru⟩ := r1.one
      refine wpAny_evalAll_cons (wpAny_bind (ld_blt I1 hg2 hm2 hv2 (wpAny_bind (wpAny_standAt (wpAny_pure ?_))) (by decide) (by decide)))
      refine wpAny_evalAll_cons (wpAny_bind (PyProof.Rows.Constant_bool (wpAny_bind (wpAny_standAt (wpAny_pure (wpAny_evalAll_nil ?_))))))
      exact run_sumX hu hc (I1.tok _) ru q1 (fun _ => ksk_s2 _ _ _) (fun _ => ksk_l2 _ _ _) fun x => ksk_t5 _ x _
end
theorem Rs.zippedI {K : PySem.W.Frag} {m : Mp} {H : Hp} : ∀ {xs : List VV} {ys : List V} (ds : List Int), Rs K m H xs ys → ∃ L : List (VV × V × Int), (L.map fun p => (p.1, p.2.2)) = xs.zip ds ∧ (L.map fun p => p.2) = ys.zip ds ∧ ∀ p ∈ L, R K m H p.1 p.2.1
  | [], _, _, .nil => ⟨[], rfl, rfl, by simp⟩
  | x :: xs, _, [], .cons r t => ⟨[], rfl, rfl, by simp⟩
  | x :: xs, _, d :: ds, .cons (v := v) r t => by
    obtain ⟨L, e1, e2, h⟩ := Rs.zippedI ds t
    refine ⟨(x, v, d) :: L, by rw [List.map_cons, e1]; rfl, by rw [List.map_cons, e2]; rfl, fun p hp => ?_⟩
    rcases List.mem_cons.mp hp with rfl | hp
    · exact r
    · exact h p hp
theorem Rs.sortedI {K : PySem.W.Frag} {m : Mp} {H : Hp} {xs : List VV} {ys : List V} (rev : Bool) (ds : List Int) (t : Rs K m H xs ys) : Rs K m H (sortByV rev xs ds) (((ys.zip ds).mergeSort fun a b => byLe rev a.2 b.2).map Prod.fst) := by
  obtain ⟨L, e1, e2, h⟩ := Rs.zippedI ds t
  unfold sortByV
  rw [← e1, ← e2]
  have m1 := List.map_mergeSort (r := fun a b : VV × V × Int => byLe rev a.2.2 b.2.2) (s := fun a b : VV × Int => byLe rev a.2 b.2) (f := fun p => (p.1, p.2.2)) (l := L) (fun a _ b _ => rfl)
  have m2 := List.map_mergeSort (r := fun a b : VV × V × Int => byLe rev a.2.2 b.2.2) (s := fun a b : V × Int => byLe rev a.2 b.2) (f := fun p => p.2) (l := L) (fun a _ b _ => rfl)
  rw [← m1, ← m2, List.map_map, List.map_map]
  exact Rs.of_map fun a ha => h a (List.mem_mergeSort.mp ha)
theorem Rs.keyT {K : PySem.W.Frag} {m : Mp} {H : Hp} : ∀ {xs : List VV} {ys : List V} {ks : List Int}, Rs K m H xs ys → mapO tupSum xs = some ks → KeyT K H ys ks
  | [], _, _, .nil, h => by cases h; exact .nil
  | x :: xs, _, ks, .cons r t, h => by
    unfold mapO at h
    split at h
    · rename_i k ks' e1 e2
      cases h
      unfold tupSum at e1
      split at e1
      · rename_i zs
        obtain ⟨ns, e3, rfl⟩ := Option.map_eq_some_iff.mp e1
        cases r with
        | tup f tt =>
          have := Rs.ints e3 tt
          subst this
          exact .cons f.sq (Rs.keyT t e2)
      · cases e1
    · cases h
section
variable {X : Cx} {w : Wish} {cl : Cl}
theorem sumS_rd {rev mm : Bool} {ir : Ex} {σ : L2.St} {H : Hp} {Q : VK} {b : Bi} (hb : ∀ v s, biV mm b [v] s = sortSumV rev mm v s) (q : rdE X.K w (ev cl (.bi mm b [ir])) σ H Q) : rdE X.K w (ev cl ir) σ H fun x H1 => rSumS X.K rev x H1 Q ∨ rSumD X.K rev x H1 Q := by
  obtain ⟨m, σv, S, s, q⟩ := q
  have q : Res X.K w m H σ ((ev cl ir σv S).bind fun v s => sortSumV rev mm v s) fun x S' => Post X.K m H x S' Q := by
    have e : (ev cl (.bi mm b [ir]) σv S) = (ev cl ir σv S).bind fun v s => sortSumV rev mm v s := by
      show ((ev cl ir σv S).bind fun v s => (Out.ok [] s).bind fun vs s => .ok (v :: vs) s).bind _ = _
      rw [Out.bind_assoc]
      congr 1
      funext v s
      exact hb v s
    rw [← e]; exact q
  refine rd_then s (q.bind.imp fun x S1 q1 m1 H1 v x1 s1 r1 => ?_)
  obtain ⟨z, S', e1, p⟩ := q1.ok (sortSumV_noX _ _ _ _)
  unfold sortSumV at e1
  split at e1
  · rename_i xs hx
    split at e1
    · rename_i ks hk
      obtain ⟨a, ys, rfl, ha, t⟩ := lst_rd s1.h r1 hx
      exact .inl ⟨a, ys, ks, rfl, SqL.of ha, t.keyT hk, (post_mkL s1.h (t.sortedI rev ks) e1 (p.ext x1)).2⟩
    · cases e1
  · split at e1
    · rename_i kvs e2
      split at e1
      · rename_i ks hk
        obtain ⟨a, o, xs, rfl, h1, h2, h3⟩ := dct_rd s1.h r1 e2
        rcases h2 with ⟨h2, _⟩ | ⟨_, ps, rfl, rfl⟩
        · cases h2
        · have t := h3.rkeys
          rw [List.map_map] at t
          exact .inr ⟨a, ps, ks, rfl, h1, t.keyT hk, (post_mkL s1.h (t.sortedI rev ks) e1 (p.ext x1)).2⟩
      · cases e1
    · cases e1
theorem se_sumS {m : Bool} {e : Expr} {ir : Ex} {p p2 pos kp : Pos} (hu : X.A.units + 100 < cLine) (hc : X.calm = true) (hg : Gl X "sorted") (hm : X.mg "sorted" = none) (hg2 : Gl X "sum") (hm2 : X.mg "sum" = none) (hn : notStar e = true) (he : SE X w cl e ir) :
    SB X w cl (.Call (.Name "sorted" p) [e] [⟨some "key", .Name "sum" p2, kp⟩] pos) (.bi m .sortedSum [ir]) :=
  sb_of (PE.imp (pe_sumS hu hc hg hm hg2 hm2 he (star_cons hn)) fun σ H Q q => sumS_rd (fun _ _ => rfl) q) fun _ => rfl
theorem se_sumSR {m : Bool} {e : Expr} {ir : Ex} {p p2 pos kp kp2 cp : Pos} {j : Nat} (hu : X.A.units + 100 < cLine) (hc : X.calm = true) (hg : Gl X "sorted") (hm : X.mg "sorted" = none) (hg2 : Gl X "sum") (hm2 : X.mg "sum" = none) (hn : notStar e = true) (he : SE X w cl e ir) :
    SB X w cl (.Call (.Name "sorted" p) [e] [⟨some "key", .Name "sum" p2, kp⟩, ⟨some "reverse", .Constant (.bool true) j cp, kp2⟩] pos) (.bi m .sortedSumR [ir]) :=
  sb_of (PE.imp (pe_sumSR hu hc hg hm hg2 hm2 he (star_cons hn)) fun σ H Q q => sumS_rd (fun _ _ => rfl) q) fun _ => rfl
theorem se_rev {d : Bool} {e : Expr} {ir : Ex} {k : Nat} {p1 p2 p3 pos : Pos} (he : SE X w cl e ir) : SB X w cl (.Subscript e (.Slice none none (some (.UnaryOp .USub (.Constant (.int 1) k p1) p2)) p3) pos) (.rev d ir) := by
  refine sb_of (PE.imp (pe_revL he) fun σ H Q ⟨m, σv, S, s, q⟩ => ?_) fun _ => rfl
  have q : Res X.K w m H σ ((ev cl ir σv S).bind fun v s => gRev d v s) fun x S' => Post X.K m H x S' Q := q
  refine rd_then s (q.bind.imp fun x S1 q1 m1 H1 v x1 s1 r1 => ?_)
  obtain ⟨z, S', e1, p⟩ := q1.ok (gRev_noX _ _ _)
  unfold gRev at e1
  split at e1
  · rename_i xs hx
    obtain ⟨a, ys, rfl, ha, t⟩ := lst_rd s1.h r1 hx
    exact ⟨a, ys, rfl, SqL.of ha, (post_mkL s1.h t.rev e1 (p.ext x1)).2⟩
  · cases e1
end
end Tw
set_option Elab.async false
set_option linter.all false
set_option autoImplicit false
set_option maxRecDepth 100000
namespace Tw
open PySem PySem.Spec PyProof.Rows L2
abbrev nS (w : World) : Obj := { cls := .type "set", dict := none, data := .set #[] 0 (.fresh 0 0 (!w.params.followText "set-order")) }
section
variable {P : Program} {w : World} {A : Around} {E : Value → Shared → Prop} {s : Shared}
theorem initL_I {a l : Ad} {items : Array Value} {ns : List Int} {U : Heap} (g : s.heap = U.push (nS w)) (ga : a = U.objs.size) (hh : A.handled = none) (hl : U.IsList l items) (hit : IntsAre items.toList ns) (hb : ns.length + 1 < scanBound) :
    codeAny (model P w) A (.call (.builtin "set.__init__") ⟨[.ref a, .ref l], []⟩) (wants (fun r s₂ => r = .none ∧ ∃ h' tk c, s₂ = { s with heap := h', toks := tk } ∧ SetR w h' a (fun j => decide (j ∈ ns)) c ∧ c ≤ ns.length ∧ (∀ b o, U.get? b = some o → h'.get? b = some o)) E) s := by
  have sz : items.size = ns.length := by rw [← hit.length, Array.length_toList]
  obtain ⟨hp, gg, d, tk, os⟩ := s
  subst ga
  dsimp only at g
  subst g
  have at_ : (U.push (nS w)).get? U.objs.size = some (nS w) := Heap.get?_push_size _ rfl
  have ty : Shared.TypeIs { heap := U.push (nS w), gens := gg, drawn := d, toks := tk, os := os } (.ref U.objs.size) "set" := ⟨_, at_, rfl⟩
  refine codeAny_call_builtin F.called_set.init.plain F.entry_set_init (check_set_init_1 ty ?_)
  obtain ⟨⟨oc, od, odd, osl⟩, ol, oc', on, od'⟩ := id hl
  dsimp only at oc' od'
  subst oc' od'
  have ol2 := Heap.get?_push_of_some (nS w) ol
  have z1 := F.sub_list_set
  have z2 := F.sub_list_frozenset
  have z3 : (Value.type "list" == Value.type "dict") = false := by decide
  unfold Builtin.«set.__init__» noKeywords Builtin.Frozenset.updateFrom
  generalize q : pyIter = R
  wp_walk
  subst q
  have lh : (U.push (nS w)).IsList l items := ⟨_, ol2, rfl, on, rfl⟩
  refine wpAny_pyIter_list lh (wpAny_bind (wpAny_runValue ?_))
  have ll : l < U.objs.size := Heap.lt_size ol
  have ps : (U.push (nS w)).objs.size = U.objs.size + 1 := Heap.size_push ..
  have hd : A.in1.in1.handled = none := by simpa using hh
  have n1 : l ≠ (U.push (nS w)).objs.size := ps ▸ Nat.ne_of_lt (Nat.lt_succ_of_lt ll)
  have n2 : U.objs.size ∉ [(U.push (nS w)).objs.size, l] := by
    rw [ps]
    simp only [List.mem_cons, List.not_mem_nil, or_false, not_or]
    exact ⟨Nat.ne_of_lt (Nat.lt_succ_self _), Nat.ne_of_gt ll⟩
  refine set_update_ints (Walks.list hd _ l n1 items).toS U.objs.size n2 ns sz hb (fun i v e => ?_) (items.size - 0) 0 _ (by omega) (Nat.zero_le _) ?_ ⟨0, Nat.le_refl 0, ?_⟩ ?_
  · have il : i < ns.length := by rw [← sz]; exact (Array.getElem?_eq_some_iff.mp e).1
    obtain ⟨t, e2⟩ := hit.int_at i v (by rw [Array.getElem?_toList]; exact e)
    refine ⟨ns[i], t, List.getElem?_eq_getElem il, ?_⟩
    rw [e2, List.getD_eq_getElem?_getD, List.getElem?_eq_getElem il]
    rfl
  · exact ⟨⟨_, Heap.get?_push_size _ rfl, rfl, rfl⟩, lh.push _⟩
  · exact setR_new_at (Heap.get?_push_of_some _ at_)
  · rintro ⟨h2, g2, d2, t2, o2⟩ c mv cl R
    obtain rfl : g2 = gg := mv.gens
    obtain rfl : d2 = d := mv.drawn
    obtain rfl : o2 = os := mv.os
    rw [sz] at cl
    show wpAny _ _ _ _ _ _
    refine wpAny_pure ?_
    show wpAny _ _ (ret Value.none) _ _ _
    refine wpAny_pure ⟨rfl, h2, t2, c, rfl, R, cl, fun b o e => mv.heap b o ?_ (Heap.get?_push_of_some _ (Heap.get?_push_of_some _ e))⟩
    have lt := Heap.lt_size e
    rw [ps]
    simp only [List.mem_cons, List.not_mem_nil, or_false, not_or]
    exact ⟨Nat.ne_of_lt lt, Nat.ne_of_lt (Nat.lt_succ_of_lt lt)⟩
theorem setL_I {l : Ad} {items : Array Value} (ns : List Int) {Q : Value → Shared → Prop} (hh : A.handled = none) (hl : s.heap.IsList l items) (hit : IntsAre items.toList ns) (hb : ns.length + 1 < scanBound)
    (k : ∀ (h' : Heap) (tk c : Nat), SetR w h' s.heap.objs.size (fun j => decide (j ∈ ns)) c → c ≤ ns.length → (∀ b o, s.heap.get? b = some o → h'.get? b = some o) → Q (.ref s.heap.objs.size) { s with heap := h', toks := tk }) :
    wpAny (model P w) A (call (.type "set") [.ref l]) Q E s := by
  obtain ⟨c0, t0, m0⟩ := F.called_set.mro
  have f1 := F.called_set.made
  have f2 := F.called_set.sub
  have f3 := F.called_set.notType
  have f4 := F.called_set.canCreate
  have f5 := F.typeCall_set_1 (.ref l)
  refine wpAny_call (codeAny_of_tree ?_)
  show wpAny _ _ (callAny (.type "set") _) _ _ _
  refine wpAny_pure ⟨Code.quiet_builtin _ (by decide +kernel), codeAny_builtin F.entry_type_call ?_⟩
  rw [Around.under_plain (weight_type_call_type _ [.ref l] []) rfl]
  repeat (any_goals (first | assumption | wp_step))
  refine codeAny_mono (code_set_led1 (.ref l) (E := E) (Q₁ := fun x s1 => x = .ref s.heap.objs.size ∧ s1 = { s with heap := s.heap.push (nS w) }) ⟨rfl, rfl⟩) fun r s1 h1 => ?_
  cases r with
  | error e => exact h1
  | ok fl =>
    cases fl with
    | ret x =>
      obtain ⟨rfl, rfl⟩ := h1
      have ty : Shared.TypeIs { s with heap := s.heap.push (nS w) } (.ref s.heap.objs.size) "set" := ⟨_, Heap.get?_push_size _ rfl, rfl⟩
      have f6 := F.called_set.init.lookup
      have f7 := F.called_set.init.bind (.ref s.heap.objs.size)
      repeat (any_goals (first | assumption | wp_step))
      refine codeAny_mono (initL_I (E := E) (U := s.heap) rfl rfl (by simpa using hh) hl hit hb) fun r2 s2 h2 => ?_
      cases r2 with
      | error e => exact h2
      | ok fl2 =>
        cases fl2 with
        | ret x =>
          obtain ⟨rfl, h', tk, c, rfl, R, cl, kp⟩ := h2
          repeat (any_goals (first | assumption | wp_step))
          exact k _ _ _ R cl kp
        | next => exact h2.elim
        | brk => exact h2.elim
        | cont => exact h2.elim
    | next => exact h1.elim
    | brk => exact h1.elim
    | cont => exact h1.elim
end
section
variable {X : Cx}
def rSetLI (K : PySem.W.Frag) (W : World) : List V → Hp → VK → Prop := fun vs H Q => ∃ (p : Ad) (ns : List Int), vs = [V.ref p] ∧ SqL K H p (ns.map V.int) ∧ ns.length < 64 ∧
  ∀ (a : Ad) (c : Nat), H a = none → c ≤ ns.length → Q (.ref a) (upd H a (SetO W a (fun j => decide (j ∈ ns)) c))
theorem cr_setLI (hc : X.calm = true) : CallR X (.type "set") (rSetLI X.K X.w) := by
  intro pins s σ H vs us Q I r h
  obtain ⟨p, ns, rfl, hs, hl, q⟩ := h
  obtain ⟨its, rv, ht, hz⟩ := I.list hs
  rw [Vals.ref1 r]
  have hi := rv.ints
  have sb : ns.length + 1 < scanBound := Nat.lt_of_lt_of_le (Nat.succ_lt_succ hl) (by decide)
  have fresh : H s.heap.objs.size = none := I.hok.fresh (Nat.le_refl _)
  refine setL_I ns (I.ok.hd hc) ht.isList (by simpa using hi) sb fun h' tk c R cl k => ?_
  exact ⟨.ref s.heap.objs.size, upd H s.heap.objs.size (SetO X.w s.heap.objs.size (fun j => decide (j ∈ ns)) c), I.laid (t' := tk) k (Nat.le_refl _) (setO_new R), rfl, q _ c fresh cl⟩
end
end Tw
set_option Elab.async false
set_option linter.all false
set_option autoImplicit false
set_option maxRecDepth 100000
namespace Tw
open PySem PySem.Spec PyProof.Rows L2
section
variable {X : Cx}
def rSetTI (K : PySem.W.Frag) (W : World) : List V → Hp → VK → Prop := fun vs H Q => ∃ (p : Ad) (ns : List Int), vs = [V.ref p] ∧ SqT K H p (ns.map V.int) ∧ ns.length < 64 ∧
  ∀ (a : Ad) (c : Nat), H a = none → c ≤ ns.length → Q (.ref a) (upd H a (SetO W a (fun j => decide (j ∈ ns)) c))
theorem cr_setTI (hc : X.calm = true) : CallR X (.type "set") (rSetTI X.K X.w) := by
  intro pins s σ H vs us Q I r h
  obtain ⟨p, ns, rfl, hs, hl, q⟩ := h
  obtain ⟨its, rv, ht, hz⟩ := I.tuple hs
  rw [Vals.ref1 r]
  have hi := rv.ints
  have sb : ns.length + 1 < scanBound := Nat.lt_of_lt_of_le (Nat.succ_lt_succ hl) (by decide)
  have fresh : H s.heap.objs.size = none := I.hok.fresh (Nat.le_refl _)
  refine call_set_tupI ns (I.ok.hd hc) ht (by simpa using hi) sb fun h' tk c R cl k => ?_
  exact ⟨.ref s.heap.objs.size, upd H s.heap.objs.size (SetO X.w s.heap.objs.size (fun j => decide (j ∈ ns)) c), I.laid (t' := tk) k (Nat.le_refl _) (setO_new R), rfl, q _ c fresh cl⟩
theorem cr_setI (hc : X.calm = true) : CallR X (.type "set") (fun vs H Q => rSetTI X.K X.w vs H Q ∨ rSetLI X.K X.w vs H Q) := fun pins s σ H vs us Q I r h =>
  h.elim (fun h => cr_setTI hc pins s σ H vs us Q I r h) fun h => cr_setLI hc pins s σ H vs us Q I r h
variable {w : Wish} {cl : Cl}
theorem gSst_noX (m : Bool) (x : VV) (s : Hs) (v : VV) (s' : Hs) : gSst m x s ≠ .exc v s' := by
  unfold gSst
  repeat' split
  all_goals first | (intro h; cases h; done) | exact mkL_noX _ _ _ _ _
theorem se_sst {e : Expr} {ir : Ex} {p p2 pos pos2 : Pos} {d : Bool} (hc : X.calm = true) (hg : Gl X "sorted") (hm : X.mg "sorted" = none) (hg2 : Gl X "set") (hm2 : X.mg "set" = none) (hn : notStar e = true) (he : SE X w cl e ir) :
    SB X w cl (.Call (.Name "sorted" p) [.Call (.Name "set" p2) [e] [] pos2] [] pos) (.sst d ir) := by
  refine sb_of (PE.imp (pe_callB (cr_sortedSet hc) hg hm (by decide +kernel) (pa_cons (pe_callTy (cr_setI hc) hg2 hm2 (by decide +kernel) (pa_cons he pa_nil (star_cons hn)) (by decide) (by decide) (star_cons hn) (by rfl)) pa_nil)) fun σ H Q ⟨m, σv, S, s, q⟩ => ?_) fun _ => rfl
  have q : Res X.K w m H σ ((ev cl ir σv S).bind fun v s => gSst d v s) fun x S' => Post X.K m H x S' Q := q
  refine rd_then s (q.bind.imp fun x S1 q1 m1 H1 v x1 s1 r1 => ?_)
  obtain ⟨z, S', e1, p⟩ := q1.ok (gSst_noX _ _ _)
  have fin : ∀ (ns : List Int) (a : Ad) (c : Nat), mkL d ((sortS ns).map .int) S1 = .ok z S' → ns.length < 64 → H1 a = none → c ≤ ns.length → rSortedSet X.w [.ref a] (upd H1 a (SetO X.w a (fun j => decide (j ∈ ns)) c)) Q := fun ns a c e1 h64 ha hcl => by
    refine ⟨a, _, c, rfl, upd_same, by omega, fun ns' q h1 h2 h3 h4 => ?_⟩
    have em : ns' = sortS ns := sortedS_uniq h1 sortS_sorted fun j => by rw [h2, decide_eq_true_eq, sortS_mem]
    subst em
    have sh := (s1.h.aside (o := SetO X.w a (fun j => decide (j ∈ ns)) c) ha).back
    exact (post_mkL sh Rs.of_ints e1 (p.ext (x1.trans (Ext.refl.upd_new ha)))).2 q h4
  unfold gSst at e1
  split at e1
  · rename_i xs
    split at e1
    · rename_i ns hns
      split at e1
      · rename_i h64
        cases r1 with
        | tup f t =>
          have := Rs.ints hns t
          subst this
          exact .inl ⟨_, ns, rfl, f.sq, h64, fun a c ha hcl => fin ns a c e1 h64 ha hcl⟩
      · cases e1
    · cases e1
  · split at e1
    · rename_i ns hns
      split at e1
      · rename_i h64
        obtain ⟨a, rfl, sq⟩ := ints_rd s1.h r1 hns
        exact .inr ⟨a, ns, rfl, SqL.of sq, h64, fun a c ha hcl => fin ns a c e1 h64 ha hcl⟩
      · cases e1
    · cases e1
end
end Tw
set_option Elab.async false
set_option linter.all false
set_option autoImplicit false
set_option maxRecDepth 100000
namespace Tw
open PySem PySem.Spec PyProof.Rows L2
structure Sg where
  nm : Str
  id : String
  ps : List Str
  keep : Bool
  deps : List Nat
  cls : Option String := none
structure Cn where
  N : List Str
  sc : Scope
  own : Str → Bool
  fns : List Sg
  muts : List (Str × Nat)
  ret : Nat
  xs : List String
  dfn : Bool
  cst : List (Str × Lit)
def biTab : List (Str × Nat × Bi) := [("len", 1, .len), ("abs", 1, .abs), ("sum", 1, .sum), ("all", 1, .all), ("any", 1, .any), ("max", 1, .max), ("min", 1, .min), ("max", 2, .max2), ("max", 3, .max3), ("min", 2, .min2), ("sorted", 1, .sorted), ("int", 1, .int),
  ("str", 1, .str), ("repr", 1, .repr), ("tuple", 1, .tuple), ("list", 1, .list), ("dict", 1, .dictOf)]
def biNm : List Str := ["len", "abs", "sum", "all", "any", "max", "min", "sorted", "int", "repr", "tuple", "list", "dict", "isinstance", "range", "enumerate", "zip", "set", "bool", "str", "ValueError", "LookupError", "RuntimeError", "OverflowError", "ArithmeticError", "KeyError", "IndexError", "NotImplementedError"]
theorem bi_tab : ∀ t ∈ biTab, bootBuiltins t.1 = some (biVal t.2.2) ∧ biPlain t.2.2 = true ∧ t.1 ≠ "__name__" ∧ (t.1 == ("__debug__" : Str)) = false ∧ t.1 ∈ biNm := by
  have : biTab.all (fun t => decide (bootBuiltins t.1 = some (biVal t.2.2)) && biPlain t.2.2 && decide (t.1 ≠ "__name__") && !(t.1 == ("__debug__" : Str)) && decide (t.1 ∈ biNm)) = true := by decide +kernel
  intro t ht
  have := List.all_eq_true.mp this t ht
  simp only [Bool.and_eq_true, decide_eq_true_eq, Bool.not_eq_true'] at this
  obtain ⟨⟨⟨⟨a, b⟩, c⟩, d⟩, e⟩ := this
  exact ⟨a, b, c, d, e⟩
structure DfOk (X : Cx) (w : Wish) (xs : List String) : Prop where
  hs : X.stack = X.env :: X.outer
  hf : X.env.frame = some X.env.locals
  hex : X.ex = []
  rx : w.rx = rxT X.K
  mks : ∀ c ∈ xs, MkOk X c
def litRel : Lit → Value → Bool
  | .non, .none => true
  | .bl b, .bool c => b == c
  | .int i, .int j _ => i == j
  | .str x, .str y _ => x == y
  | _, _ => false
def Lit.V : Lit → V
  | .non => .non
  | .bl b => .bl b
  | .int i => .int i
  | .str x => .str x
theorem litRel_ok {l : Lit} {u : Value} (h : litRel l u = true) : RelV l.V u := by
  cases l <;> cases u <;> simp [litRel] at h
  · exact rfl
  · subst h; exact rfl
  · subst h; exact ⟨_, rfl⟩
  · subst h; exact ⟨_, rfl⟩
theorem Lit.rel (l : Lit) (K : PySem.W.Frag) (m : Mp) (H : Hp) : R K m H l.vv l.V := by
  cases l
  · exact .non
  · exact .bl _
  · exact .int _
  · exact .str _
def SgOk (X : Cx) (rx : Rx) (cl : Cl) (g : Sg) : Prop := match g.cls with
  | none => CallOk X rx cl g.nm g.id g.ps
  | some c => if g.nm = "__init__" then MakeOk X rx cl c g.id g.ps else MethOk X rx cl c g.nm g.id g.ps
theorem SgOk.of {X Y : Cx} {rx : Rx} {cl : Cl} {g : Sg} (h : SgOk X rx cl g) (e1 : CallOk X rx cl g.nm g.id g.ps → CallOk Y rx cl g.nm g.id g.ps) (e2 : ∀ c, MakeOk X rx cl c g.id g.ps → MakeOk Y rx cl c g.id g.ps) (e3 : ∀ c, MethOk X rx cl c g.nm g.id g.ps → MethOk Y rx cl c g.nm g.id g.ps) : SgOk Y rx cl g := by
  unfold SgOk at h ⊢
  split at h
  · exact e1 h
  · split at h
    · rename_i hn; rw [if_pos hn]; exact e2 _ h
    · rename_i hn; rw [if_neg hn]; exact e3 _ h
structure XOk (X : Cx) (w : Wish) (cl : Cl) (Γ : Cn) : Prop where
  N : X.N = Γ.N
  nd : X.N.Nodup
  sc : X.env.scope = Γ.sc
  kind : X.env.scope.kind = .function
  fn : ∀ x, Γ.own x = true → X.fn x = true
  room : XRoom X
  tk : Takes X w.W
  fns : ∀ g ∈ Γ.fns, SgOk X w.rx cl g
  mg : ∀ x ∈ biNm, X.mg x = none
  df : Γ.dfn = true → DfOk X w Γ.xs
  cst : ∀ c ∈ Γ.cst, ∃ u, X.mg c.1 = some u ∧ litRel c.2 u = true
abbrev Rec := Cn → Nat → Expr → Option Ex
def RecOk (rec : Rec) : Prop := ∀ (Γ : Cn) (X : Cx) (w : Wish) (cl : Cl) (d : Nat) (e : Expr) (ir : Ex), XOk X w cl Γ → rec Γ d e = some ir → SB X w cl e ir
def cEs (f : Expr → Option Ex) : List Expr → Option (List Ex)
  | [] => some []
  | e :: es => if notStar e then (match f e, cEs f es with
    | some i, some is => some (i :: is)
    | _, _ => none) else none
def cArgs (f : Nat → Expr → Option Ex) : List Nat → List Expr → Option (List Ex)
  | _, [] => some []
  | ds, e :: es => if notStar e then (match f (ds.headD 0) e, cArgs f ds.tail es with
    | some i, some is => some (i :: is)
    | _, _ => none) else none
def cKs (f : Expr → Option Ex) : List Keyword → Option (List Ex)
  | [] => some []
  | ⟨nm, v, _⟩ :: ks => if nm.isSome then (match f v, cKs f ks with
    | some i, some is => some (i :: is)
    | _, _ => none) else none
section
variable {X : Cx} {w : Wish} {cl : Cl}
theorem cEs_ok {f : Expr → Option Ex} (h : ∀ e ir, f e = some ir → SB X w cl e ir) : ∀ {es : List Expr} {irs : List Ex}, cEs f es = some irs → SA X w cl es irs ∧ (∀ e ∈ es, notStar e = true) ∧ irs.length = es.length ∧ All2 (SB X w cl) es irs
  | [], irs, e => by cases e; exact ⟨sa_nil, by simp, rfl, .nil⟩
  | a :: es, irs, e => by
    unfold cEs at e
    split at e
    · rename_i hs
      split at e
      · rename_i i is h1 h2
        cases e
        obtain ⟨t1, t2, t3, t4⟩ := cEs_ok h h2
        refine ⟨sa_cons hs (h _ _ h1).v t1, fun b hb => ?_, by rw [List.length_cons, List.length_cons, t3], .cons (h _ _ h1) t4⟩
        rcases List.mem_cons.mp hb with rfl | hb
        · exact hs
        · exact t2 b hb
      · cases e
    · cases e
theorem cArgs_ok {f : Nat → Expr → Option Ex} (h : ∀ d e ir, f d e = some ir → SB X w cl e ir) : ∀ {ds : List Nat} {es : List Expr} {irs : List Ex}, cArgs f ds es = some irs → SA X w cl es irs ∧ (∀ e ∈ es, notStar e = true) ∧ irs.length = es.length
  | _, [], irs, e => by
    unfold cArgs at e
    cases e
    exact ⟨sa_nil, by simp, rfl⟩
  | ds, a :: es, irs, e => by
    unfold cArgs at e
    split at e
    · rename_i hs
      split at e
      · rename_i i is h1 h2
        cases e
        obtain ⟨t1, t2, t3⟩ := cArgs_ok h h2
        refine ⟨sa_cons hs (h _ _ _ h1).v t1, fun b hb => ?_, by rw [List.length_cons, List.length_cons, t3]⟩
        rcases List.mem_cons.mp hb with rfl | hb
        · exact hs
        · exact t2 b hb
      · cases e
    · cases e
theorem cKs_ok {f : Expr → Option Ex} (h : ∀ e ir, f e = some ir → SB X w cl e ir) : ∀ {ks : List Keyword} {irs : List Ex}, cKs f ks = some irs → SK X w cl ks irs ∧ (∀ k ∈ ks, k.arg.isSome = true) ∧ irs.length = ks.length
  | [], irs, e => by cases e; exact ⟨sk_nil, by simp, rfl⟩
  | ⟨nm, v, kp⟩ :: es, irs, e => by
    unfold cKs at e
    split at e
    · rename_i hs
      split at e
      · rename_i i is h1 h2
        cases e
        obtain ⟨t1, t2, t3⟩ := cKs_ok h h2
        refine ⟨sk_cons (h _ _ h1).v t1, fun b hb => ?_, by rw [List.length_cons, List.length_cons, t3]⟩
        rcases List.mem_cons.mp hb with rfl | hb
        · exact hs
        · exact t2 b hb
      · cases e
    · cases e
end
def ixIn (x : Str) : List Str → Option Nat
  | [] => none
  | y :: ys => if x == y then some 0 else (ixIn x ys).map (· + 1)
def slot (Γ : Cn) (x : Str) : Option Nat := match ixIn x Γ.N with
  | some i => if Γ.N[i]? = some x then some i else none
  | none => none
theorem slot_ok {X : Cx} {w : Wish} {cl : Cl} {Γ : Cn} (ok : XOk X w cl Γ) {x : Str} {i : Nat} (h : slot Γ x = some i) : X.N[i]? = some x := by
  unfold slot at h
  split at h
  · split at h
    · cases h
      rw [ok.N]
      assumption
    · cases h
  · cases h
def visB (Γ : Cn) (x : Str) : Bool := match Γ.sc.names.lookup x with
  | some .local => true
  | some .cell => true
  | some .free => true
  | _ => false
theorem vis_ok {X : Cx} {w : Wish} {cl : Cl} {Γ : Cn} (ok : XOk X w cl Γ) {x : Str} (h : visB Γ x = true) : Vis X.env.scope x := by
  unfold Vis
  rw [ok.sc]
  unfold visB at h
  split at h
  · exact .inl (by assumption)
  · exact .inr (.inl (by assumption))
  · exact .inr (.inr (by assumption))
  · cases h
def glB (Γ : Cn) (x : Str) : Bool := Γ.sc.names.lookup x == some .globalImplicit && !(x == ("__debug__" : Str))
theorem gl_ok {X : Cx} {w : Wish} {cl : Cl} {Γ : Cn} (ok : XOk X w cl Γ) {x : Str} (h : glB Γ x = true) : Gl X x ∧ (x == ("__debug__" : Str)) = false := by
  unfold glB at h
  simp only [Bool.and_eq_true, Bool.not_eq_true', beq_iff_eq] at h
  refine ⟨?_, h.2⟩
  show X.env.scope.names.lookup x = _
  rw [ok.sc]
  exact h.1
def locB (Γ : Cn) (x : Str) : Bool := match Γ.sc.names.lookup x with
  | some .local => true
  | some .cell => Γ.own x
  | _ => false
theorem loc_ok {X : Cx} {w : Wish} {cl : Cl} {Γ : Cn} (ok : XOk X w cl Γ) {x : Str} (h : locB Γ x = true) : L2.Loc X.env.scope x ∧ (X.fn x = true ∨ X.env.scope.names.lookup x = some .local) := by
  unfold L2.Loc
  rw [ok.sc]
  unfold locB at h
  split at h
  · exact ⟨.inl (by assumption), .inr (by assumption)⟩
  · exact ⟨.inr (by assumption), .inl (ok.fn x h)⟩
  · cases h
mutual
/-- targets -/
def cTg (Γ : Cn) : Nat → Expr → Option Tg
  | n + 1, .Name x _ => if locB Γ x then (slot Γ x).map .var else none
  | n + 1, .Tuple es _ _ => (cTgs Γ n es).map .tup
  | _, _ => none
def cTgs (Γ : Cn) : Nat → List Expr → Option (List Tg)
  | _, [] => some []
  | n + 1, e :: es => if notStar e then (match cTg Γ n e, cTgs Γ n es with
    | some t, some ts => some (t :: ts)
    | _, _ => none) else none
  | 0, _ :: _ => none
end
theorem cTg_ok {X : Cx} {w : Wish} {cl : Cl} {Γ : Cn} (ok : XOk X w cl Γ) : ∀ n : Nat, (∀ e t, cTg Γ n e = some t → PG X e (rdG X.K t)) ∧ (∀ es ts, cTgs Γ n es = some ts → PGs X es (rdGs X.K ts) ∧ (∀ e ∈ es, notStar e = true) ∧ es.length = ts.length)
  | 0 => by
    refine ⟨fun e t h => ?_, fun es ts h => ?_⟩
    · cases e <;> cases h
    · cases es with
      | nil => cases h; exact ⟨pgs_nil', by simp, rfl⟩
      | cons e es => cases h
  | n + 1 => by
    obtain ⟨ih1, ih2⟩ := cTg_ok ok n
    refine ⟨fun e t h => ?_, fun es ts h => ?_⟩
    · cases e with
      | Name x p =>
        have h : (if locB Γ x then (slot Γ x).map Tg.var else none) = some t := h
        split at h
        · rename_i hl
          obtain ⟨i, hi, rfl⟩ := Option.map_eq_some_iff.mp h
          obtain ⟨l1, l2⟩ := loc_ok ok hl
          exact pg_var ok.nd (slot_ok ok hi) l1 l2
        · cases h
      | Tuple es k p =>
        have h : (cTgs Γ n es).map Tg.tup = some t := h
        obtain ⟨ts, hts, rfl⟩ := Option.map_eq_some_iff.mp h
        obtain ⟨a, b, c⟩ := ih2 es ts hts
        exact pg_seq ok.room.calm b a c
      | _ => cases h
    · cases es with
      | nil => cases h; exact ⟨pgs_nil', by simp, rfl⟩
      | cons e es =>
        have h : (if notStar e then (match cTg Γ n e, cTgs Γ n es with
          | some t, some ts => some (t :: ts)
          | _, _ => none) else none) = some ts := h
        split at h
        · rename_i hs
          split at h
          · rename_i t ts h1 h2
            cases h
            obtain ⟨a, b, c⟩ := ih2 es ts h2
            refine ⟨pgs_cons' hs (ih1 e t h1) a, fun q hq => ?_, by rw [List.length_cons, List.length_cons, c]⟩
            rcases List.mem_cons.mp hq with rfl | hq
            · exact hs
            · exact b q hq
          · cases h
        · cases h
def Cn.inn (Γ : Cn) (scope : Scope) : Cn := { Γ with sc := relS scope Γ.sc, own := fun x => scope.names.lookup x == some .cell, dfn := false }
theorem XOk.inn {X : Cx} {w : Wish} {cl : Cl} {Γ : Cn} (ok : XOk X w cl Γ) {scope : Scope} (hk : scope.kind = .function) (s : Shared) (H : Hp) (C : Addr) (cell : List (Str × Addr)) (fp : List Addr) : XOk (X.blk s H scope (compEnvC scope cell C X.env) fp) w.shut cl (Γ.inn scope) where
  N := ok.N
  nd := ok.nd
  sc := by
    show relabel scope X.env = relS scope Γ.sc
    rw [← ok.sc]
    rfl
  kind := hk
  fn := fun x h => h
  room := ⟨ok.room.calm, ok.room.guards, ok.room.units⟩
  tk := fun u s' ⟨_, _, _, _, _, _, _, _, _, _, _, _, _, _, _, _, z⟩ => z
  fns := fun g hg => (ok.fns g hg).of (fun h => ⟨h.ex⟩) (fun _ h => ⟨h.ex⟩) fun _ h => ⟨h.ex⟩
  mg := ok.mg
  df := fun h => Bool.noConfusion (show false = true from h)
  cst := ok.cst
end Tw
set_option Elab.async false
set_option linter.all false
set_option autoImplicit false
set_option maxRecDepth 100000
namespace Tw
open PySem PySem.Spec PyProof.Rows L2
def opB : Operator → Option Bop
  | .Add => some .add
  | .Sub => some .sub
  | .Mult => some .mul
  | .FloorDiv => some .fdiv
  | .Mod => some .mod
  | .Pow => some .pow
  | _ => none
theorem opB_ok {op : Operator} {o : Bop} (h : opB op = some o) : op = bopOp o := by
  cases op <;> cases h <;> rfl
def opC : CmpOp → Option Cop
  | .Eq => some .eq
  | .NotEq => some .ne
  | .Lt => some .lt
  | .LtE => some .le
  | .Gt => some .gt
  | .GtE => some .ge
  | .In => some .isin
  | .NotIn => some .notin
  | .Is => some .is_
  | .IsNot => some .isnot
theorem opC_ok {op : CmpOp} {o : Cop} (h : opC op = some o) : op = copOp o := by
  cases op <;> cases h <;> rfl
def cC : Const → Option Lit
  | .none => some .non
  | .bool b => some (.bl b)
  | .int i => some (.int i)
  | .str x => some (.str x)
  | _ => none
def deep (d : Nat) : Nat := if d ≤ 1 then 0 else d
def cOp (f : Expr → Option Ex) : Option Expr → Option Ex
  | none => some (.lit .non)
  | some e => match f e with
    | some (.lit .non) => none
    | o => o
def tyTab : List (Str × Ty) := [("int", .int), ("bool", .bool), ("str", .str), ("tuple", .tuple), ("list", .list)]
theorem ty_tab : ∀ t ∈ tyTab, tyPlain t.2 = true ∧ t.1 = Str.ofString (tyName t.2) ∧ t.1 ∈ biNm := by
  have : tyTab.all (fun t => tyPlain t.2 && decide (t.1 = Str.ofString (tyName t.2)) && decide (t.1 ∈ biNm)) = true := by decide +kernel
  intro t ht
  have := List.all_eq_true.mp this t ht
  simp only [Bool.and_eq_true, decide_eq_true_eq] at this
  exact ⟨this.1.1, this.1.2, this.2⟩
def look {α : Type} (x : Str) : List (Str × α) → Option (Str × α)
  | [] => none
  | p :: ps => if x = p.1 then some p else look x ps
theorem look_ok {α : Type} {x : Str} {p : Str × α} : ∀ {l : List (Str × α)}, look x l = some p → p ∈ l ∧ p.1 = x
  | [], h => by cases h
  | q :: l, h => by
    unfold look at h
    split at h
    · cases h
      exact ⟨List.mem_cons_self, by rename_i e; exact e.symm⟩
    · exact ⟨List.mem_cons_of_mem _ (look_ok h).1, (look_ok h).2⟩
def cTys (Γ : Cn) : List Expr → Option (List Ty)
  | [] => some []
  | .Name x _ :: es => if glB Γ x then (match look x tyTab, cTys Γ es with
    | some t, some ts => some (t.2 :: ts)
    | _, _ => none) else none
  | _ :: _ => none
def lookBi (x : Str) (n : Nat) : List (Str × Nat × Bi) → Option (Str × Nat × Bi)
  | [] => none
  | p :: ps => if x = p.1 ∧ n = p.2.1 then some p else lookBi x n ps
theorem lookBi_ok {x : Str} {n : Nat} {p : Str × Nat × Bi} : ∀ {l : List (Str × Nat × Bi)}, lookBi x n l = some p → p ∈ l ∧ p.1 = x
  | [], h => by cases h
  | q :: l, h => by
    unfold lookBi at h
    split at h
    · cases h
      exact ⟨List.mem_cons_self, by rename_i e; exact e.1.symm⟩
    · exact ⟨List.mem_cons_of_mem _ (lookBi_ok h).1, (lookBi_ok h).2⟩
def sgOf (x : Str) : List Sg → Option Sg
  | [] => none
  | g :: gs => if x = g.nm ∧ g.cls = none then some g else sgOf x gs
theorem sgOf_ok {x : Str} {g : Sg} : ∀ {l : List Sg}, sgOf x l = some g → g ∈ l ∧ g.nm = x ∧ g.cls = none
  | [], h => by cases h
  | q :: l, h => by
    unfold sgOf at h
    split at h
    · rename_i e
      cases h
      exact ⟨List.mem_cons_self, e.1.symm, e.2⟩
    · exact ⟨List.mem_cons_of_mem _ (sgOf_ok h).1, (sgOf_ok h).2⟩
def cCall (rec : Rec) (Γ : Cn) (d : Nat) (f : Str) (es : List Expr) (kws : List Keyword) : Option Ex :=
  if glB Γ f then (match sgOf f Γ.fns with
    | some g => (match cArgs (rec Γ) g.deps es with
      | some is => if kws.isEmpty then (if permOf g.ps es.length [] = some (List.range es.length) then some (.call (g.keep || decide (0 < d)) g.id is) else none)
        else (match cKs (rec Γ 0) kws, permOf g.ps es.length (kws.filterMap (·.arg)) with
          | some is2, some perm => some (.callk (g.keep || decide (0 < d)) g.id perm (is ++ is2))
          | _, _ => none)
      | none => none)
    | none => if kws.isEmpty then (if f = "isinstance" then (match es with
        | [e, .Name x p] => if notStar e then (match rec Γ 0 e, cTys Γ [.Name x p] with
          | some i, some ts => some (.bi false (.isinst ts) [i])
          | _, _ => none) else none
        | [e, .Tuple ts k p] => if notStar e then (match rec Γ 0 e, cTys Γ ts with
          | some i, some ts => if ts.length ≤ 1000 then some (.bi false (.isinst ts) [i]) else none
          | _, _ => none) else none
        | _ => none)
      else match es with
        | [] => none
        | e :: es => (match lookBi f (es.length + 1) biTab, cEs (rec Γ (deep d)) (e :: es) with
          | some t, some is => some (.bi (decide (0 < d)) t.2.2 is)
          | _, _ => none)) else none) else none
theorem cTys_ok {X : Cx} {w : Wish} {cl : Cl} {Γ : Cn} (ok : XOk X w cl Γ) : ∀ {es : List Expr} {ts : List Ty}, cTys Γ es = some ts → AllTy X es ts
  | [], ts, h => by cases h; exact .nil
  | e :: es, ts, h => by
    cases e with
    | Name x p =>
      have h : (if glB Γ x then (match look x tyTab, cTys Γ es with
        | some t, some ts => some (t.2 :: ts)
        | _, _ => none) else none) = some ts := h
      split at h
      · rename_i hg
        split at h
        · rename_i t ts' h1 h2
          cases h
          obtain ⟨m1, m2⟩ := look_ok h1
          obtain ⟨t1, t2, t3⟩ := ty_tab t m1
          exact .cons t1 (m2 ▸ t2) (gl_ok ok hg).1 (ok.mg x (m2 ▸ t3)) (cTys_ok ok h2)
        · cases h
      · cases h
    | _ => cases h
theorem cCall_ok {rec : Rec} (hr : RecOk rec) {Γ : Cn} {X : Cx} {w : Wish} {cl : Cl} (ok : XOk X w cl Γ) {d : Nat} {f : Str} {es : List Expr} {kws : List Keyword} {ir : Ex} {p pos : Pos} (h : cCall rec Γ d f es kws = some ir) : SB X w cl (.Call (.Name f p) es kws pos) ir := by
  unfold cCall at h
  split at h
  · rename_i hg
    obtain ⟨g1, g2⟩ := gl_ok ok hg
    split at h
    · rename_i g hs
      obtain ⟨m1, m2, m3⟩ := sgOf_ok hs
      have F := ok.fns g m1
      unfold SgOk at F
      rw [m3] at F
      have F : CallOk X w.rx cl g.nm g.id g.ps := F
      rw [m2] at F
      split at h
      · rename_i is hi
        obtain ⟨a1, a2, a3⟩ := cArgs_ok (fun d e ir => hr Γ X w cl d e ir ok) hi
        split at h
        · rename_i hk
          have hk : kws = [] := List.isEmpty_iff.mp hk
          subst hk
          split at h
          · rename_i hp
            cases h
            exact se_call ok.tk ok.room.guards F g1 g2 a2 hp a1 a3
          · cases h
        · split at h
          · rename_i is2 perm h1 h2
            cases h
            obtain ⟨b1, b2, b3⟩ := cKs_ok (fun e ir => hr Γ X w cl 0 e ir ok) h1
            exact se_callk ok.tk ok.room.guards F g1 g2 a2 b2 rfl h2 a1 b1 a3 b3
          · cases h
      · cases h
    · split at h
      · rename_i hk
        have hk : kws = [] := List.isEmpty_iff.mp hk
        subst hk
        split at h
        · rename_i hf
          split at h
          · rename_i e x p2
            split at h
            · rename_i hn
              split at h
              · rename_i i ts h1 h2
                cases h
                cases cTys_ok ok h2 with
                | cons t1 t2 t3 t4 t5 =>
                  cases t5
                  exact se_isi hf g1 (ok.mg f (by rw [hf]; decide +kernel)) hn (hr Γ X w cl 0 e i ok h1).v t1 t2 t3 t4
              · cases h
            · cases h
          · rename_i e ts' k p2
            split at h
            · rename_i hn
              split at h
              · rename_i i ts h1 h2
                split at h
                · rename_i hl
                  cases h
                  exact se_isiT hf g1 (ok.mg f (by rw [hf]; decide +kernel)) hn (hr Γ X w cl 0 e i ok h1).v (cTys_ok ok h2) hl
                · cases h
              · cases h
            · cases h
          · cases h
        · split at h
          · cases h
          · rename_i e es'
            split at h
            · rename_i t is h1 h2
              cases h
              obtain ⟨m1, m2⟩ := lookBi_ok h1
              obtain ⟨b1, b2, b3, b4, b5⟩ := bi_tab t m1
              rw [m2] at b1 b3 b4 b5
              obtain ⟨c1, c2, c3, _⟩ := cEs_ok (fun e ir => hr Γ X w cl (deep d) e ir ok) h2
              exact bi_call ok.room b2 g1 (ok.mg f b5) b1 b3 b4 c2 c1
            · cases h
      · cases h
  · cases h
end Tw
set_option Elab.async false
set_option linter.all false
set_option autoImplicit false
set_option maxRecDepth 100000
namespace Tw
open PySem PySem.Spec PyProof.Rows L2
def isTupE : Expr → Bool
  | .Tuple .. => true
  | _ => false
def isTN : Expr → Bool
  | .Tuple .. => true
  | .Name .. => true
  | _ => false
def cI (rec : Rec) (Γ : Cn) (tg : Expr) (e : Expr) : Option It := match e with
  | .Call (.Name f _) [a] [] _ =>
    if f = "range" ∧ glB Γ f = true ∧ notStar a = true then (rec Γ 0 a).map fun i => .range [i]
    else if f = "enumerate" ∧ glB Γ f = true ∧ notStar a = true then (if isTupE tg then (rec Γ 0 a).map .enum else none)
    else (rec Γ 0 e).map .pl
  | .Call (.Name f _) [a, b] [] _ =>
    if f = "range" ∧ glB Γ f = true ∧ notStar a = true ∧ notStar b = true then (match rec Γ 0 a, rec Γ 0 b with
      | some i, some j => some (.range [i, j])
      | _, _ => none)
    else if f = "zip" ∧ glB Γ f = true ∧ notStar a = true ∧ notStar b = true then (if isTN tg then (match rec Γ 0 a, rec Γ 0 b with
      | some i, some j => some (.zip i j)
      | _, _ => none) else none)
    else (rec Γ 0 e).map .pl
  | .Call (.Name f _) [a, b, c] [] _ =>
    if f = "range" ∧ glB Γ f = true then (match cEs (rec Γ 0) [a, b, c] with
      | some [i, j, k] => some (.range [i, j, k])
      | _ => none)
    else (rec Γ 0 e).map .pl
  | _ => if notSet e then (rec Γ 0 e).map .pl else none
theorem cI_ok {rec : Rec} (hr : RecOk rec) {Γ : Cn} {X : Cx} {w : Wish} {cl : Cl} (ok : XOk X w cl Γ) {tg e : Expr} {it : It} (h : cI rec Γ tg e = some it) : SI X w cl tg e it ∧ notSet e = true := by
  have pl : ∀ {e : Expr} {it : It}, (rec Γ 0 e).map It.pl = some it → SI X w cl tg e it := fun {e it} h => by
    obtain ⟨i, hi, rfl⟩ := Option.map_eq_some_iff.mp h
    exact si_pl (hr Γ X w cl 0 e i ok hi).v
  have nm : ∀ f : Str, f ∈ biNm → X.mg f = none := ok.mg
  unfold cI at h
  split at h
  · rename_i f p a pos
    refine ⟨?_, rfl⟩
    split at h
    · rename_i hc
      obtain ⟨c1, c2, c3⟩ := hc
      obtain ⟨i, hi, rfl⟩ := Option.map_eq_some_iff.mp h
      subst c1
      exact si_range1 (gl_ok ok c2).1 (nm _ (by decide +kernel)) c3 (sa_cons c3 (hr Γ X w cl 0 a i ok hi).v sa_nil)
    · split at h
      · rename_i hc
        obtain ⟨c1, c2, c3⟩ := hc
        split at h
        · rename_i ht
          obtain ⟨i, hi, rfl⟩ := Option.map_eq_some_iff.mp h
          subst c1
          cases tg <;> try (exact absurd ht Bool.false_ne_true)
          exact si_enum (gl_ok ok c2).1 (nm _ (by decide +kernel)) c3 (hr Γ X w cl 0 a i ok hi).v
        · cases h
      · exact pl h
  · rename_i f p a b pos
    refine ⟨?_, rfl⟩
    split at h
    · rename_i hc
      obtain ⟨c1, c2, c3, c4⟩ := hc
      split at h
      · rename_i i j hi hj
        cases h
        subst c1
        exact si_range2 (gl_ok ok c2).1 (nm _ (by decide +kernel)) c3 c4 (sa_cons c3 (hr Γ X w cl 0 a i ok hi).v (sa_cons c4 (hr Γ X w cl 0 b j ok hj).v sa_nil))
      · cases h
    · split at h
      · rename_i hc
        obtain ⟨c1, c2, c3, c4⟩ := hc
        split at h
        · rename_i ht
          split at h
          · rename_i i j hi hj
            cases h
            subst c1
            cases tg <;> first
              | exact absurd ht Bool.false_ne_true
              | exact si_zip (gl_ok ok c2).1 (nm _ (by decide +kernel)) c3 c4 (hr Γ X w cl 0 a i ok hi).v (hr Γ X w cl 0 b j ok hj).v
              | exact si_zipN (gl_ok ok c2).1 (nm _ (by decide +kernel)) c3 c4 (hr Γ X w cl 0 a i ok hi).v (hr Γ X w cl 0 b j ok hj).v
          · cases h
        · cases h
      · exact pl h
  · rename_i f p a b c pos
    refine ⟨?_, rfl⟩
    split at h
    · rename_i hc
      obtain ⟨rfl, c1⟩ := hc
      split at h
      · rename_i i j k h2
        cases h
        obtain ⟨s1, s2, _, _⟩ := cEs_ok (fun e ir h => hr Γ X w cl 0 e ir ok h) h2
        exact si_range3 (gl_ok ok c1).1 (nm _ (by decide +kernel)) s2 s1
      · cases h
    · exact pl h
  · split at h
    · rename_i hn
      exact ⟨pl h, hn⟩
    · cases h
def ownOf (Γ : Cn) : List (Str × NameKind) → List (Str × Nat)
  | [] => []
  | (x, k) :: r => match k with
    | .local => (match slot Γ x with
      | some i => (x, i) :: ownOf Γ r
      | none => ownOf Γ r)
    | .cell => (match slot Γ x with
      | some i => (x, i) :: ownOf Γ r
      | none => ownOf Γ r)
    | _ => ownOf Γ r
def cIfs (f : Expr → Option Ex) : List Expr → Option (List Ex)
  | [] => some []
  | [e] => (f e).map fun i => [i]
  | _ => none
def cCompG (cit : Option It) (rec : Rec) (Γ : Cn) (d : Nat) (elt tg : Expr) (ifs : List Expr) (scope : Scope) : Option (Ex × List (Str × Nat) × Tg × It × List Ex × Ex) :=
  if blkC Γ.N Γ.sc scope (ownOf Γ scope.names) then (match cit, cTg (Γ.inn scope) 8 tg, cIfs (rec (Γ.inn scope) 0) ifs, rec (Γ.inn scope) (d - 1) elt with
    | some it, some t, some cs, some ir => if (tvs t).all fun i => ((ownOf Γ scope.names).map (·.2)).contains i then some (.comp (decide (0 < d)) ir t it cs ((ownOf Γ scope.names).map (·.2)), ownOf Γ scope.names, t, it, cs, ir) else none
    | _, _, _, _ => none) else none
theorem cCompG_ok {cit : Option It} {rec : Rec} (hr : RecOk rec) {Γ : Cn} {X : Cx} {w : Wish} {cl : Cl} (ok : XOk X w cl Γ) {d : Nat} {elt tg iter : Expr} {ifs : List Expr} {scope : Scope} {e : Ex} {own : List (Str × Nat)} {t : Tg} {it : It} {cs : List Ex} {ir : Ex}
    (hci : ∀ it, cit = some it → SI X w cl tg iter it ∧ notSet iter = true) (h : cCompG cit rec Γ d elt tg ifs scope = some (e, own, t, it, cs, ir)) : e = .comp (decide (0 < d)) ir t it cs (own.map (·.2)) ∧ SI X w cl tg iter it ∧ notSet iter = true ∧ BlkOk X.N X.env.scope scope own ∧ (∀ i ∈ tvs t, i ∈ own.map (·.2)) ∧
      ∀ (s : Shared) (H : Hp) (C : Addr) (cell : List (Str × Addr)) (fp : List Addr), PG (X.blk s H scope (compEnvC scope cell C X.env) fp) tg (rdG X.K t) ∧ STs (X.blk s H scope (compEnvC scope cell C X.env) fp) w.shut cl ifs cs ∧ SE (X.blk s H scope (compEnvC scope cell C X.env) fp) w.shut cl elt ir := by
  unfold cCompG at h
  split at h
  · rename_i hb
    split at h
    · rename_i it' t' cs' ir' h2 h3 h4
      split at h
      · rename_i hv
        cases h
        have hbk := blkOk_by hb
        obtain ⟨i1, i2⟩ := hci _ rfl
        refine ⟨rfl, i1, i2, by rw [ok.N, ok.sc]; exact hbk, fun i hi => ?_, fun s H C cell fp => ?_⟩
        · have := List.all_eq_true.mp hv i hi
          simpa using this
        · have ok2 := ok.inn hbk.kind s H C cell fp
          refine ⟨(cTg_ok ok2 8).1 _ _ h2, ?_, (hr _ _ _ _ _ _ _ ok2 h4).v⟩
          unfold cIfs at h3
          split at h3
          · cases h3; exact sts_nil
          · obtain ⟨i, hi, rfl⟩ := Option.map_eq_some_iff.mp h3
            exact sts_one (hr _ _ _ _ _ _ _ ok2 hi)
          · cases h3
      · cases h
    · cases h
  · cases h
def cComp (rec : Rec) (Γ : Cn) (d : Nat) (elt tg iter : Expr) (ifs : List Expr) (scope : Scope) := cCompG (cI rec Γ tg iter) rec Γ d elt tg ifs scope
theorem cComp_ok {rec : Rec} (hr : RecOk rec) {Γ : Cn} {X : Cx} {w : Wish} {cl : Cl} (ok : XOk X w cl Γ) {d : Nat} {elt tg iter : Expr} {ifs : List Expr} {scope : Scope} {e : Ex} {own : List (Str × Nat)} {t : Tg} {it : It} {cs : List Ex} {ir : Ex}
    (h : cComp rec Γ d elt tg iter ifs scope = some (e, own, t, it, cs, ir)) : e = .comp (decide (0 < d)) ir t it cs (own.map (·.2)) ∧ SI X w cl tg iter it ∧ notSet iter = true ∧ BlkOk X.N X.env.scope scope own ∧ (∀ i ∈ tvs t, i ∈ own.map (·.2)) ∧
      ∀ (s : Shared) (H : Hp) (C : Addr) (cell : List (Str × Addr)) (fp : List Addr), PG (X.blk s H scope (compEnvC scope cell C X.env) fp) tg (rdG X.K t) ∧ STs (X.blk s H scope (compEnvC scope cell C X.env) fp) w.shut cl ifs cs ∧ SE (X.blk s H scope (compEnvC scope cell C X.env) fp) w.shut cl elt ir :=
  cCompG_ok hr ok (fun it h => cI_ok hr ok h) h
theorem cI_notSet {rec : Rec} {Γ : Cn} {tg e : Expr} {it : It} (h : cI rec Γ tg e = some it) : notSet e = true := by
  unfold cI at h
  split at h
  · rfl
  · rfl
  · rfl
  · split at h
    · assumption
    · cases h
def cComp2 (rec : Rec) (Γ : Cn) (d : Nat) (elt tg iter : Expr) (ifs : List Expr) (tg2 iter2 : Expr) (ifs2 : List Expr) (scope : Scope) : Option (Ex × List (Str × Nat) × (Tg × It × List Ex) × (Tg × It × List Ex) × Ex) :=
  if blkC Γ.N Γ.sc scope (ownOf Γ scope.names) then (match cI rec Γ tg iter, cTg (Γ.inn scope) 8 tg, cIfs (rec (Γ.inn scope) 0) ifs, rec (Γ.inn scope) (d - 1) elt, cI rec (Γ.inn scope) tg2 iter2, cTg (Γ.inn scope) 8 tg2, cIfs (rec (Γ.inn scope) 0) ifs2 with
    | some it, some t, some cs, some ir, some it2, some t2, some cs2 => if ((tvs t).all fun i => ((ownOf Γ scope.names).map (·.2)).contains i) && ((tvs t2).all fun i => ((ownOf Γ scope.names).map (·.2)).contains i) then some (.comp2 (decide (0 < d)) ir t it cs t2 it2 cs2 (tvs t2) ((ownOf Γ scope.names).map (·.2)), ownOf Γ scope.names, (t, it, cs), (t2, it2, cs2), ir) else none
    | _, _, _, _, _, _, _ => none) else none
theorem cIfs_ok {f : Expr → Option Ex} {X : Cx} {w : Wish} {cl : Cl} (h : ∀ e ir, f e = some ir → SB X w cl e ir) {es : List Expr} {cs : List Ex} (e : cIfs f es = some cs) : STs X w cl es cs := by
  unfold cIfs at e
  split at e
  · cases e; exact sts_nil
  · obtain ⟨i, hi, rfl⟩ := Option.map_eq_some_iff.mp e
    exact sts_one (h _ _ hi)
  · cases e
theorem cComp2_ok {rec : Rec} (hr : RecOk rec) {Γ : Cn} {X : Cx} {w : Wish} {cl : Cl} (ok : XOk X w cl Γ) {d : Nat} {elt tg iter tg2 iter2 : Expr} {ifs ifs2 : List Expr} {scope : Scope} {e : Ex} {own : List (Str × Nat)} {t t2 : Tg} {it it2 : It} {cs cs2 : List Ex} {ir : Ex}
    (h : cComp2 rec Γ d elt tg iter ifs tg2 iter2 ifs2 scope = some (e, own, (t, it, cs), (t2, it2, cs2), ir)) : e = .comp2 (decide (0 < d)) ir t it cs t2 it2 cs2 (tvs t2) (own.map (·.2)) ∧ SI X w cl tg iter it ∧ notSet iter = true ∧ notSet iter2 = true ∧ BlkOk X.N X.env.scope scope own ∧ (∀ i ∈ tvs t, i ∈ own.map (·.2)) ∧ (∀ i ∈ tvs t2, i ∈ own.map (·.2)) ∧
      ∀ (s : Shared) (H : Hp) (C : Addr) (cell : List (Str × Addr)) (fp : List Addr), PG (X.blk s H scope (compEnvC scope cell C X.env) fp) tg (rdG X.K t) ∧ STs (X.blk s H scope (compEnvC scope cell C X.env) fp) w.shut cl ifs cs ∧ SI (X.blk s H scope (compEnvC scope cell C X.env) fp) w.shut cl tg2 iter2 it2 ∧
        PG (X.blk s H scope (compEnvC scope cell C X.env) fp) tg2 (rdG X.K t2) ∧ STs (X.blk s H scope (compEnvC scope cell C X.env) fp) w.shut cl ifs2 cs2 ∧ SE (X.blk s H scope (compEnvC scope cell C X.env) fp) w.shut cl elt ir := by
  unfold cComp2 at h
  split at h
  · rename_i hb
    split at h
    · rename_i it' t' cs' ir' it2' t2' cs2' h1 h2 h3 h4 h5 h6 h7
      split at h
      · rename_i hv
        cases h
        have hbk := blkOk_by hb
        obtain ⟨i1, i2⟩ := cI_ok hr ok h1
        have mem : ∀ {t : Tg}, ((tvs t).all fun i => ((ownOf Γ scope.names).map (·.2)).contains i) = true → ∀ i ∈ tvs t, i ∈ (ownOf Γ scope.names).map (·.2) := fun hv i hi => by
          have := List.all_eq_true.mp hv i hi
          simpa using this
        rw [Bool.and_eq_true] at hv
        have n2 : notSet iter2 = true := by
          exact cI_notSet h5
        refine ⟨rfl, i1, i2, n2, by rw [ok.N, ok.sc]; exact hbk, mem hv.1, mem hv.2, fun s H C cell fp => ?_⟩
        have ok2 := ok.inn hbk.kind s H C cell fp
        exact ⟨(cTg_ok ok2 8).1 _ _ h2, cIfs_ok (fun e ir h => hr _ _ _ _ _ _ _ ok2 h) h3, (cI_ok hr ok2 h5).1, (cTg_ok ok2 8).1 _ _ h6, cIfs_ok (fun e ir h => hr _ _ _ _ _ _ _ ok2 h) h7, (hr _ _ _ _ _ _ _ ok2 h4).v⟩
      · cases h
    · cases h
  · cases h
def cRg (rec : Rec) (Γ : Cn) (d : Nat) (f : Str) (es : List Expr) : Option Ex := match es with
  | [.Call (.Name g _) [a, b, c] [] _] => if g = "range" ∧ f = "list" ∧ glB Γ g = true ∧ glB Γ f = true then (match cEs (rec Γ 0) [a, b, c] with
    | some [i, j, k] => some (.bi (decide (0 < d)) .lrangeD [i, j, k])
    | _ => none) else none
  | [.Call (.Name g _) as [] _] => if g = "range" ∧ glB Γ g = true ∧ glB Γ f = true ∧ (as.length = 1 ∨ as.length = 2) then (match rgBi f, cEs (rec Γ 0) as with
    | some b, some irs => some (.bi (decide (0 < d)) b irs)
    | _, _ => none) else none
  | _ => none
theorem cRg_ok {rec : Rec} (hr : RecOk rec) {Γ : Cn} {X : Cx} {w : Wish} {cl : Cl} (ok : XOk X w cl Γ) {d : Nat} {f : Str} {es : List Expr} {ir : Ex} {p pos : Pos} (h : cRg rec Γ d f es = some ir) : SB X w cl (.Call (.Name f p) es [] pos) ir := by
  unfold cRg at h
  split at h
  · rename_i g p2 a b c pos2
    split at h
    · rename_i hc
      obtain ⟨rfl, rfl, c1, c2⟩ := hc
      split at h
      · rename_i i j k h2
        cases h
        obtain ⟨s1, s2, _, _⟩ := cEs_ok (fun e ir h => hr Γ X w cl 0 e ir ok h) h2
        exact se_rgD ok.room.calm (gl_ok ok c2).1 (ok.mg _ (by decide +kernel)) (gl_ok ok c1).1 (ok.mg _ (by decide +kernel)) s2 s1
      · cases h
    · cases h
  · rename_i g p2 as pos2 _
    split at h
    · rename_i hc
      obtain ⟨rfl, c1, c2, c3⟩ := hc
      split at h
      · rename_i b irs h1 h2
        cases h
        obtain ⟨_, s2, _, s4⟩ := cEs_ok (fun e ir h => hr Γ X w cl 0 e ir ok h) h2
        have nm : X.mg f = none := by
          unfold rgBi at h1
          split at h1
          · rename_i e; rw [e]; exact ok.mg _ (by decide +kernel)
          · split at h1
            · rename_i e; rw [e]; exact ok.mg _ (by decide +kernel)
            · cases h1
        exact se_rg h1 ok.room.calm (gl_ok ok c2).1 nm (gl_ok ok c1).1 (ok.mg _ (by decide +kernel)) s2 s4 c3
      · cases h
    · cases h
  · cases h
def cBlkG (cit : Option It) (rec : Rec) (Γ : Cn) (tg : Expr) (ifs : List Expr) (scope : Scope) : Option (Tg × It × List Ex) :=
  if blkC Γ.N Γ.sc scope (ownOf Γ scope.names) then (match cit, cTg (Γ.inn scope) 8 tg, cIfs (rec (Γ.inn scope) 0) ifs with
    | some it, some t, some cs => if (tvs t).all fun i => ((ownOf Γ scope.names).map (·.2)).contains i then some (t, it, cs) else none
    | _, _, _ => none) else none
theorem cBlkG_ok {cit : Option It} {rec : Rec} (hr : RecOk rec) {Γ : Cn} {X : Cx} {w : Wish} {cl : Cl} (ok : XOk X w cl Γ) {tg iter : Expr} {ifs : List Expr} {scope : Scope} {t : Tg} {it : It} {cs : List Ex} (hci : ∀ it, cit = some it → SI X w cl tg iter it ∧ notSet iter = true) (h : cBlkG cit rec Γ tg ifs scope = some (t, it, cs)) :
    SI X w cl tg iter it ∧ notSet iter = true ∧ BlkOk X.N X.env.scope scope (ownOf Γ scope.names) ∧ (∀ i ∈ tvs t, i ∈ (ownOf Γ scope.names).map (·.2)) ∧
      ∀ (s : Shared) (H : Hp) (C : Addr) (cell : List (Str × Addr)) (fp : List Addr), PG (X.blk s H scope (compEnvC scope cell C X.env) fp) tg (rdG X.K t) ∧ STs (X.blk s H scope (compEnvC scope cell C X.env) fp) w.shut cl ifs cs ∧ ∀ d e ir, rec (Γ.inn scope) d e = some ir → SE (X.blk s H scope (compEnvC scope cell C X.env) fp) w.shut cl e ir := by
  unfold cBlkG at h
  split at h
  · rename_i hb
    split at h
    · rename_i it' t' cs' h2 h3
      split at h
      · rename_i hv
        cases h
        have hbk := blkOk_by hb
        obtain ⟨i1, i2⟩ := hci _ rfl
        refine ⟨i1, i2, by rw [ok.N, ok.sc]; exact hbk, fun i hi => ?_, fun s H C cell fp => ?_⟩
        · have := List.all_eq_true.mp hv i hi
          simpa using this
        · have ok2 := ok.inn hbk.kind s H C cell fp
          refine ⟨(cTg_ok ok2 8).1 _ _ h2, ?_, fun d e ir h4 => (hr _ _ _ _ _ _ _ ok2 h4).v⟩
          unfold cIfs at h3
          split at h3
          · cases h3; exact sts_nil
          · obtain ⟨i, hi, rfl⟩ := Option.map_eq_some_iff.mp h3
            exact sts_one (hr _ _ _ _ _ _ _ ok2 hi)
          · cases h3
      · cases h
    · cases h
  · cases h
def cBlk (rec : Rec) (Γ : Cn) (tg iter : Expr) (ifs : List Expr) (scope : Scope) := cBlkG (cI rec Γ tg iter) rec Γ tg ifs scope
theorem cBlk_ok {rec : Rec} (hr : RecOk rec) {Γ : Cn} {X : Cx} {w : Wish} {cl : Cl} (ok : XOk X w cl Γ) {tg iter : Expr} {ifs : List Expr} {scope : Scope} {t : Tg} {it : It} {cs : List Ex} (h : cBlk rec Γ tg iter ifs scope = some (t, it, cs)) :
    SI X w cl tg iter it ∧ notSet iter = true ∧ BlkOk X.N X.env.scope scope (ownOf Γ scope.names) ∧ (∀ i ∈ tvs t, i ∈ (ownOf Γ scope.names).map (·.2)) ∧
      ∀ (s : Shared) (H : Hp) (C : Addr) (cell : List (Str × Addr)) (fp : List Addr), PG (X.blk s H scope (compEnvC scope cell C X.env) fp) tg (rdG X.K t) ∧ STs (X.blk s H scope (compEnvC scope cell C X.env) fp) w.shut cl ifs cs ∧ ∀ d e ir, rec (Γ.inn scope) d e = some ir → SE (X.blk s H scope (compEnvC scope cell C X.env) fp) w.shut cl e ir :=
  cBlkG_ok hr ok (fun it h => cI_ok hr ok h) h
def xtOf (Γ : Cn) (x : Str) : Option Xt := match Γ.xs.find? fun c => decide (x = Str.ofString c) with
  | some c => some (.own c)
  | none => (xBas.find? fun t => decide (x = Str.ofString t)).map .bas
def cXts (Γ : Cn) : List Expr → Option (List Xt)
  | [] => some []
  | .Name x _ :: es => if glB Γ x then (match xtOf Γ x, cXts Γ es with
    | some t, some ts => some (t :: ts)
    | _, _ => none) else none
  | _ :: _ => none
theorem xBas_nm : (xBas.all fun t => decide (Str.ofString t ∈ biNm)) = true := by decide +kernel
theorem cXts_ok {X : Cx} {w : Wish} {cl : Cl} {Γ : Cn} (ok : XOk X w cl Γ) (hd : Γ.dfn = true) : ∀ {es : List Expr} {ts : List Xt}, cXts Γ es = some ts → AllXt X es ts
  | [], ts, h => by cases h; exact .nil
  | e :: es, ts, h => by
    cases e with
    | Name x p =>
      have h : (if glB Γ x then (match xtOf Γ x, cXts Γ es with
        | some t, some ts => some (t :: ts)
        | _, _ => none) else none) = some ts := h
      split at h
      · rename_i hg
        obtain ⟨g1, g2⟩ := gl_ok ok hg
        split at h
        · rename_i t ts' h1 h2
          cases h
          unfold xtOf at h1
          split at h1
          · rename_i c hc
            cases h1
            have e1 := of_decide_eq_true (List.find?_some (p := fun c => decide (x = Str.ofString c)) hc)
            have M := (ok.df hd).mks c (List.mem_of_find?_eq_some hc)
            exact .own e1 g1 g2 (by rw [e1]; exact M.mg) M.G (cXts_ok ok hd h2)
          · obtain ⟨t, ht, rfl⟩ := Option.map_eq_some_iff.mp h1
            have e1 := of_decide_eq_true (List.find?_some (p := fun t => decide (x = Str.ofString t)) ht)
            have hm := List.mem_of_find?_eq_some ht
            exact .bas e1 g1 (ok.mg x (by rw [e1]; exact of_decide_eq_true (List.all_eq_true.mp xBas_nm t hm))) hm (cXts_ok ok hd h2)
        · cases h
      · cases h
    | _ => cases h
def cIsx (rec : Rec) (Γ : Cn) (f : Str) (es : List Expr) : Option Ex := if f = "isinstance" ∧ glB Γ f = true ∧ Γ.dfn = true then (match es with
  | [e, .Name x p] => if notStar e then (match rec Γ 0 e, cXts Γ [.Name x p] with
    | some i, some [t] => some (.isx i [t])
    | _, _ => none) else none
  | [e, .Tuple ts _ _] => if notStar e then (match rec Γ 0 e, cXts Γ ts with
    | some i, some ts => if ts.length ≤ 1000 then some (.isx i ts) else none
    | _, _ => none) else none
  | _ => none) else none
theorem cIsx_ok {rec : Rec} (hr : RecOk rec) {Γ : Cn} {X : Cx} {w : Wish} {cl : Cl} (ok : XOk X w cl Γ) {f : Str} {es : List Expr} {ir : Ex} {p pos : Pos} (h : cIsx rec Γ f es = some ir) : SB X w cl (.Call (.Name f p) es [] pos) ir := by
  unfold cIsx at h
  split at h
  · rename_i hc
    obtain ⟨hf, hg, hd⟩ := hc
    have g1 := (gl_ok ok hg).1
    have gm := ok.mg f (by rw [hf]; decide +kernel)
    split at h
    · rename_i e x p2
      split at h
      · rename_i hn
        split at h
        · rename_i i t h1 h2
          cases h
          exact se_isx1 hf g1 gm hn rfl (hr Γ X w cl 0 e i ok h1).v (cXts_ok ok hd h2)
        · cases h
      · cases h
    · rename_i e ts k p2
      split at h
      · rename_i hn
        split at h
        · rename_i i ts' h1 h2
          split at h
          · rename_i hl
            cases h
            exact se_isxT hf g1 gm hn (hr Γ X w cl 0 e i ok h1).v (cXts_ok ok hd h2) hl
          · cases h
        · cases h
      · cases h
    · cases h
  · cases h
def rdep : Expr → Nat
  | .Call .. => 1
  | _ => 0
def stepE (rec : Rec) (Γ : Cn) (d : Nat) (e : Expr) : Option Ex := match e with
  | .Name x _ => if visB Γ x = true ∧ (x == ("__debug__" : Str)) = false ∧ (x == ("__classdict__" : Str)) = false then (slot Γ x).map .var else if glB Γ x = true then (Γ.cst.find? fun c => decide (c.1 = x)).map fun c => .lit c.2 else none
  | .Constant c _ _ => (cC c).map .lit
  | .BinOp a op b _ => (match opB op, rec Γ (deep d) a, rec Γ (deep d) b with
    | some o, some i, some j => some (.bin (decide (0 < d)) o i j)
    | _, _, _ => none)
  | .UnaryOp .USub a _ => (rec Γ 0 a).map .neg
  | .UnaryOp .Not a _ => (rec Γ 0 a).map .no
  | .BoolOp op es _ => if es.isEmpty then none else (match op with
    | .And => (cEs (rec Γ d) es).map .conj
    | .Or => (cEs (rec Γ d) es).map .disj)
  | .IfExp c a b _ => (match rec Γ 0 c, rec Γ d a, rec Γ d b with
    | some i, some j, some k => some (.ite i j k)
    | _, _, _ => none)
  | .Tuple es _ _ => (cEs (rec Γ d) es).map .tup
  | .List es _ => (cEs (rec Γ (d - 1)) es).map (.lst (decide (0 < d)))
  | .Compare a [op] [b] _ => if behindInMarks op b then none else (match opC op, rec Γ 0 a, rec Γ 0 b with
    | some o, some i, some j => some (.cmp o i j)
    | _, _, _ => none)
  | .Compare a [op, op'] [b, c] _ => if lastMarks [op, op'] [b, c] then none else (match opC op, opC op', rec Γ 0 a, rec Γ 0 b, rec Γ 0 c with
    | some o, some o', some i, some j, some k => some (.chain o o' i j k)
    | _, _, _, _, _ => none)
  | .Compare a [op, op', op''] [b, c, f] _ => if lastMarks [op, op', op''] [b, c, f] then none else (match opC op, opC op', opC op'', rec Γ 0 a, rec Γ 0 b, rec Γ 0 c, rec Γ 0 f with
    | some o, some o', some o'', some i, some j, some k, some l => some (.chain3 o o' o'' i j k l)
    | _, _, _, _, _, _, _ => none)
  | .Subscript a (.Slice lo hi none _) _ => (match rec Γ (deep d) a, cOp (rec Γ 0) lo, cOp (rec Γ 0) hi with
    | some i, some l, some u => some (.sl (decide (0 < d)) i l u)
    | _, _, _ => none)
  | .Subscript a b _ => if okSub b then (match rec Γ 0 a, rec Γ 0 b with
    | some i, some j => some (.idx i j)
    | _, _ => none) else none
  | .Call (.Name f _) [.SetComp elt [⟨tg, iter, ifs, 0⟩] scope _] [] _ => if f = "sorted" ∧ glB Γ f = true then (match cBlk rec Γ tg iter ifs scope, rec (Γ.inn scope) 0 elt with
    | some (t, it, cs), some ir => some (.scomp (decide (0 < d)) ir t it cs ((ownOf Γ scope.names).map (·.2)))
    | _, _ => none) else none
  | .Call (.Name f _) es kws _ => if kws.isEmpty = true ∧ (cIsx rec Γ f es).isSome = true then cIsx rec Γ f es else if kws.isEmpty = true ∧ (cRg rec Γ d f es).isSome = true then cRg rec Γ d f es else cCall rec Γ d f es kws
  | .Call (.Attribute o n ap) [a, b] [] cp => if n = "get" ∧ okBase o = true ∧ (ap.endLine == cp.line) = true ∧ notStar a = true ∧ notStar b = true then (match rec Γ 0 o, rec Γ 0 a, rec Γ 0 b with
    | some i, some j, some k => some (.bm .get i [j, k])
    | _, _, _ => none) else none
  | .DictComp kx vx [⟨tg, iter, ifs, 0⟩] scope _ => (match cBlk rec Γ tg iter ifs scope, rec (Γ.inn scope) 0 kx, rec (Γ.inn scope) 0 vx with
    | some (t, it, cs), some ik, some iv => some (.dcomp (decide (0 < d)) (isTupE kx) ik iv t it cs ((ownOf Γ scope.names).map (·.2)))
    | _, _, _ => none)
  | .Call (.Attribute o n ap) [a] [] cp => if okBase o = true ∧ (ap.endLine == cp.line) = true ∧ notStar a = true then (match bm1Of n, rec Γ (rdep o) o, rec Γ 0 a with
    | some b, some i, some j => some (.bm b i [j])
    | _, _, _ => (match bmtOf n, rec Γ 0 o, rec Γ 0 a with
      | some b, some i, some j => some (.bm b i [j])
      | _, _, _ => none)) else none
  | .Call (.Attribute o n ap) [] [] cp => if okBase o = true ∧ (ap.endLine == cp.line) = true then (match bm0Of n, rec Γ 0 o with
    | some b, some i => some (.bm b i [])
    | _, _ => none) else none
  | .ListComp elt [⟨tg, iter, ifs, 0⟩] scope _ => (cComp rec Γ d elt tg iter ifs scope).map fun r => r.1
  | .ListComp elt [⟨tg, iter, ifs, 0⟩, ⟨tg2, iter2, ifs2, 0⟩] scope _ => (cComp2 rec Γ d elt tg iter ifs tg2 iter2 ifs2 scope).map fun r => r.1
  | .Attribute e n _ => if okBase e = true then (rec Γ 0 e).map (.fld · n) else none
  | _ => none
theorem cOp_ok {X : Cx} {w : Wish} {cl : Cl} {f : Expr → Option Ex} (h : ∀ e ir, f e = some ir → SB X w cl e ir) {o : Option Expr} {ir : Ex} (e : cOp f o = some ir) : SO X w cl o ir := by
  cases o with
  | none => cases e; rfl
  | some b =>
    unfold cOp at e
    dsimp only at e
    split at e
    · cases e
    · rename_i hn
      exact ⟨(h _ _ e).v, fun z => hn (by rw [e, z])⟩
theorem stepE_ok {rec : Rec} (hr : RecOk rec) : RecOk (stepE rec) := by
  intro Γ X w cl d e ir ok h
  have rr : ∀ d e ir, rec Γ d e = some ir → SB X w cl e ir := fun d e ir => hr Γ X w cl d e ir ok
  have hu : X.A.units + 65 < cLine := by have := ok.room.units; omega
  unfold stepE at h
  split at h
  · split at h
    · rename_i hc
      obtain ⟨i, hi, rfl⟩ := Option.map_eq_some_iff.mp h
      exact se_var (slot_ok ok hi) (vis_ok ok hc.1) hc.2.1 hc.2.2
    · split at h
      · rename_i hg
        obtain ⟨c, hc, rfl⟩ := Option.map_eq_some_iff.mp h
        have e1 := of_decide_eq_true (List.find?_some (p := fun c : Str × Lit => decide (c.1 = _)) hc)
        obtain ⟨u, hu, hr⟩ := ok.cst c (List.mem_of_find?_eq_some hc)
        obtain ⟨g1, g2⟩ := gl_ok ok hg
        rw [e1] at hu
        exact se_const (pe_glob g1 hu (litRel_ok hr) g2) (fun K m H => c.2.rel K m H) fun _ => rfl
      · cases h
  · rename_i c j pos
    obtain ⟨l, hl, rfl⟩ := Option.map_eq_some_iff.mp h
    cases c <;> cases hl
    · exact se_const pe_non (fun _ _ _ => .non) fun _ => rfl
    · exact se_const pe_bl (fun _ _ _ => .bl _) fun _ => rfl
    · exact se_const pe_int (fun _ _ _ => .int _) fun _ => rfl
    · exact se_const pe_str (fun _ _ _ => .str _) fun _ => rfl
  · split at h
    · rename_i o i j h1 h2 h3
      cases h
      exact se_bin (opB_ok h1) (rr _ _ _ h2).v (rr _ _ _ h3).v
    · cases h
  · obtain ⟨i, hi, rfl⟩ := Option.map_eq_some_iff.mp h
    exact se_neg (rr _ _ _ hi).v
  · obtain ⟨i, hi, rfl⟩ := Option.map_eq_some_iff.mp h
    exact se_no (rr _ _ _ hi)
  · split at h
    · cases h
    · rename_i hn
      split at h
      · obtain ⟨is, hi, rfl⟩ := Option.map_eq_some_iff.mp h
        obtain ⟨_, _, _, a4⟩ := cEs_ok (rr d) hi
        exact se_and a4 (fun z => hn (by rw [z]; rfl))
      · obtain ⟨is, hi, rfl⟩ := Option.map_eq_some_iff.mp h
        obtain ⟨_, _, _, a4⟩ := cEs_ok (rr d) hi
        exact se_or a4 (fun z => hn (by rw [z]; rfl))
  · split at h
    · rename_i i j k h1 h2 h3
      cases h
      exact se_ite (rr _ _ _ h1) (rr _ _ _ h2) (rr _ _ _ h3)
    · cases h
  · obtain ⟨is, hi, rfl⟩ := Option.map_eq_some_iff.mp h
    exact se_tup (cEs_ok (rr d) hi).1
  · obtain ⟨is, hi, rfl⟩ := Option.map_eq_some_iff.mp h
    exact se_lst (cEs_ok (rr (d - 1)) hi).1
  · split at h
    · cases h
    · rename_i hm
      split at h
      · rename_i o i j h1 h2 h3
        cases h
        exact se_cmp hu (opC_ok h1) (by simpa using hm) (rr _ _ _ h2).v (rr _ _ _ h3).v
      · cases h
  · split at h
    · cases h
    · rename_i hm
      split at h
      · rename_i o o' i j k h1 h2 h3 h4 h5
        cases h
        exact se_chain hu (opC_ok h1) (opC_ok h2) (by simpa using hm) (rr _ _ _ h3).v (rr _ _ _ h4).v (rr _ _ _ h5).v
      · cases h
  · split at h
    · cases h
    · rename_i hm
      split at h
      · rename_i o o' o'' i j k l h1 h2 h3 h4 h5 h6 h7
        cases h
        exact se_chain3 hu (opC_ok h1) (opC_ok h2) (opC_ok h3) (by simpa using hm) (rr _ _ _ h4).v (rr _ _ _ h5).v (rr _ _ _ h6).v (rr _ _ _ h7).v
      · cases h
  · split at h
    · rename_i i l u h1 h2 h3
      cases h
      exact se_sl (rr _ _ _ h1).v (cOp_ok (rr 0) h2) (cOp_ok (rr 0) h3)
    · cases h
  · split at h
    · rename_i hs
      split at h
      · rename_i i j h1 h2
        cases h
        exact se_idx hu hs (rr _ _ _ h1).v (rr _ _ _ h2).v
      · cases h
    · cases h
  · split at h
    · rename_i hc
      obtain ⟨rfl, hc⟩ := hc
      split at h
      · rename_i t it cs ir' h1 h2
        cases h
        obtain ⟨c1, c2, c3, c4, c5⟩ := cBlk_ok hr ok h1
        exact se_sset (gl_ok ok hc).1 (ok.mg _ (by decide +kernel)) ok.room.calm ok.nd c1 c2 c3 c4 fun s H C cell fp => ⟨(c5 s H C cell fp).1, (c5 s H C cell fp).2.1, (c5 s H C cell fp).2.2 _ _ _ h2⟩
      · cases h
    · cases h
  · split at h
    · rename_i hc
      have hk := List.isEmpty_iff.mp hc.1
      subst hk
      exact cIsx_ok hr ok h
    · split at h
      · rename_i hc
        have hk := List.isEmpty_iff.mp hc.1
        subst hk
        exact cRg_ok hr ok h
      · exact cCall_ok hr ok h
  · split at h
    · rename_i hc
      obtain ⟨rfl, c1, c2, c3, c4⟩ := hc
      split at h
      · rename_i i j k h1 h2 h3
        cases h
        exact se_get hu (rr _ _ _ h1).v (rr _ _ _ h2).v (rr _ _ _ h3).v c3 c4 c1 c2
      · cases h
    · cases h
  · split at h
    · rename_i t it cs ik iv h1 h2 h3
      cases h
      obtain ⟨c1, c2, c3, c4, c5⟩ := cBlk_ok hr ok h1
      exact se_dcomp hu ok.room.calm ok.nd c1 c2 c3 c4 fun s H C cell fp => ⟨(c5 s H C cell fp).1, (c5 s H C cell fp).2.1, (c5 s H C cell fp).2.2 _ _ _ h2, (c5 s H C cell fp).2.2 _ _ _ h3⟩
    · cases h
  · split at h
    · rename_i hc
      split at h
      · rename_i b i j h1 h2 h3
        cases h
        exact se_bm1_of h1 (rr _ _ _ h2).v (sa_cons hc.2.2 (rr _ _ _ h3).v sa_nil) hc.2.2 hc.1 hc.2.1
      · split at h
        · rename_i b i j h1 h2 h3
          cases h
          exact se_bmt_of h1 (rr _ _ _ h2).v (rr _ _ _ h3).v hc.2.2 hc.1 hc.2.1
        · cases h
    · cases h
  · split at h
    · rename_i hc
      split at h
      · rename_i b i h1 h2
        cases h
        exact se_bm0_of h1 (rr _ _ _ h2).v hc.1 hc.2
      · cases h
    · cases h
  · obtain ⟨⟨e', own, t, it, cs, ir'⟩, hq, he⟩ := Option.map_eq_some_iff.mp h
    have he : e' = ir := he
    subst he
    obtain ⟨rfl, c1, c2, c3, c4, c5⟩ := cComp_ok hr ok hq
    exact se_comp ok.room.calm ok.nd c1 c2 c3 c4 c5
  · obtain ⟨⟨e', own, ⟨t, it, cs⟩, ⟨t2, it2, cs2⟩, ir'⟩, hq, he⟩ := Option.map_eq_some_iff.mp h
    have he : e' = ir := he
    subst he
    obtain ⟨rfl, c1, c2, c3, c4, c5, c6, c7⟩ := cComp2_ok hr ok hq
    exact se_comp2 ok.room.calm ok.nd c1 c2 c3 c4 c5 c6 c7
  · split at h
    · rename_i hc
      obtain ⟨i, hi, rfl⟩ := Option.map_eq_some_iff.mp h
      exact se_fld (rr _ _ _ hi).v hc
    · cases h
  · cases h
def mtOf (n : Str) : List Sg → Option (Sg × String)
  | [] => none
  | g :: gs => match g.cls with
    | some c => if n = g.nm ∧ g.nm ≠ "__init__" then some (g, c) else mtOf n gs
    | none => mtOf n gs
theorem mtOf_ok {n : Str} {g : Sg} {c : String} : ∀ {l : List Sg}, mtOf n l = some (g, c) → g ∈ l ∧ g.cls = some c ∧ g.nm = n ∧ g.nm ≠ "__init__"
  | [], h => by cases h
  | q :: l, h => by
    unfold mtOf at h
    split at h
    · rename_i c' hc
      split at h
      · rename_i e
        cases h
        exact ⟨List.mem_cons_self, hc, e.1.symm, e.2⟩
      · exact ⟨List.mem_cons_of_mem _ (mtOf_ok h).1, (mtOf_ok h).2⟩
    · exact ⟨List.mem_cons_of_mem _ (mtOf_ok h).1, (mtOf_ok h).2⟩
def mkOf (x : Str) : List Sg → Option (Sg × String)
  | [] => none
  | g :: gs => match g.cls with
    | some c => if x = Str.ofString c ∧ g.nm = "__init__" then some (g, c) else mkOf x gs
    | none => mkOf x gs
theorem mkOf_ok {x : Str} {g : Sg} {c : String} : ∀ {l : List Sg}, mkOf x l = some (g, c) → g ∈ l ∧ g.cls = some c ∧ x = Str.ofString c ∧ g.nm = "__init__"
  | [], h => by cases h
  | q :: l, h => by
    unfold mkOf at h
    split at h
    · rename_i c' hc
      split at h
      · rename_i e
        cases h
        exact ⟨List.mem_cons_self, hc, e.1, e.2⟩
      · exact ⟨List.mem_cons_of_mem _ (mkOf_ok h).1, (mkOf_ok h).2⟩
    · exact ⟨List.mem_cons_of_mem _ (mkOf_ok h).1, (mkOf_ok h).2⟩
def cMeth (rec : Rec) (Γ : Cn) (d : Nat) (o : Expr) (n : Str) (ap cp : Pos) (es : List Expr) (kws : List Keyword) : Option Ex := match mtOf n Γ.fns with
  | some (g, c) => if okBase o = true ∧ (ap.endLine == cp.line) = true ∧ es.length + kws.length < 29 then (match rec Γ 0 o, cArgs (rec Γ) g.deps.tail es, cKs (rec Γ 0) kws, permOf g.ps (es.length + 1) (kws.filterMap (·.arg)) with
    | some io, some is, some is2, some perm => some (.meth (g.keep || decide (0 < d)) c n g.id perm io (is ++ is2))
    | _, _, _, _ => none) else none
  | none => none
def cMake (rec : Rec) (Γ : Cn) (x : Str) (es : List Expr) (kws : List Keyword) : Option Ex := if glB Γ x then (match mkOf x Γ.fns with
  | some (g, c) => (match cArgs (rec Γ) g.deps.tail es, cKs (rec Γ 0) kws, permOf g.ps (es.length + 1) (kws.filterMap (·.arg)) with
    | some is, some is2, some perm => some (.mk c g.id perm (is ++ is2))
    | _, _, _ => none)
  | none => none) else none
def cLck (rec : Rec) (Γ : Cn) (tg iter : Expr) : Option (It × Ex) := match iter with
  | .Call (.Attribute b n ap) [] [] cp => if n = "items" ∧ okBase b = true ∧ (ap.endLine == cp.line) = true ∧ isTupE tg = true then (rec Γ 0 b).map fun i => (.ditems i, i) else none
  | .Attribute b f p => if f = "left" then (rec Γ 0 (.Attribute b f p)).map fun i => (.dkeys i, i) else none
  | .Name x p => if Γ.muts.lookup x = some 8 then (rec Γ 0 (.Name x p)).map fun i => (.dkeyi i, i) else none
  | _ => none
theorem cLck_ok {rec : Rec} (hr : RecOk rec) {Γ : Cn} {X : Cx} {w : Wish} {cl : Cl} (ok : XOk X w cl Γ) {tg iter : Expr} {it : It} {ix : Ex} (h : cLck rec Γ tg iter = some (it, ix)) : SI X w cl tg iter it ∧ notSet iter = true := by
  unfold cLck at h
  split at h
  · split at h
    · rename_i hc
      obtain ⟨rfl, c1, c2, c3⟩ := hc
      obtain ⟨i, hi, e⟩ := Option.map_eq_some_iff.mp h
      cases e
      refine ⟨?_, rfl⟩
      cases tg <;> try (exact absurd c3 Bool.false_ne_true)
      exact si_ditems c1 c2 (hr Γ X w cl 0 _ _ ok hi).v
    · cases h
  · split at h
    · obtain ⟨i, hi, e⟩ := Option.map_eq_some_iff.mp h
      cases e
      exact ⟨si_dkeys (hr Γ X w cl 0 _ _ ok hi).v, rfl⟩
    · cases h
  · split at h
    · obtain ⟨i, hi, e⟩ := Option.map_eq_some_iff.mp h
      cases e
      exact ⟨si_dkeyi (hr Γ X w cl 0 _ _ ok hi).v, rfl⟩
    · cases h
  · cases h
def cMin (rec : Rec) (Γ : Cn) (x : Str) (es : List Expr) (kws : List Keyword) : Option Ex := match es, kws with
  | [a], [⟨some k, .Name y _, _⟩] => if x = "min" ∧ k = "key" ∧ y = "len" ∧ glB Γ x = true ∧ glB Γ y = true ∧ notStar a = true then (rec Γ 0 a).map fun i => .bi false .minLen [i] else none
  | _, _ => none
theorem cMin_ok {rec : Rec} (hr : RecOk rec) {Γ : Cn} {X : Cx} {w : Wish} {cl : Cl} (ok : XOk X w cl Γ) {x : Str} {es : List Expr} {kws : List Keyword} {ir : Ex} {p pos : Pos} (h : cMin rec Γ x es kws = some ir) : SB X w cl (.Call (.Name x p) es kws pos) ir := by
  unfold cMin at h
  split at h
  · split at h
    · rename_i hc
      obtain ⟨rfl, rfl, rfl, c1, c2, c3⟩ := hc
      obtain ⟨i, hi, rfl⟩ := Option.map_eq_some_iff.mp h
      exact se_minLen ok.room.calm (gl_ok ok c1).1 (ok.mg _ (by decide +kernel)) (gl_ok ok c2).1 (ok.mg _ (by decide +kernel)) c3 (hr Γ X w cl 0 _ i ok hi).v
    · cases h
  · cases h
def cSum (rec : Rec) (Γ : Cn) (d : Nat) (x : Str) (es : List Expr) (kws : List Keyword) : Option Ex := match es, kws with
  | [a], [⟨some k, .Name y _, _⟩] => if x = "sorted" ∧ k = "key" ∧ y = "sum" ∧ glB Γ x = true ∧ glB Γ y = true ∧ notStar a = true then (rec Γ 0 a).map fun i => .bi (decide (0 < d)) .sortedSum [i] else none
  | [a], [⟨some k, .Name y _, _⟩, ⟨some k2, .Constant (.bool true) _ _, _⟩] => if x = "sorted" ∧ k = "key" ∧ y = "sum" ∧ k2 = "reverse" ∧ glB Γ x = true ∧ glB Γ y = true ∧ notStar a = true then (rec Γ 0 a).map fun i => .bi (decide (0 < d)) .sortedSumR [i] else none
  | _, _ => none
theorem cSum_ok {rec : Rec} (hr : RecOk rec) {Γ : Cn} {X : Cx} {w : Wish} {cl : Cl} (ok : XOk X w cl Γ) {d : Nat} {x : Str} {es : List Expr} {kws : List Keyword} {ir : Ex} {p pos : Pos} (h : cSum rec Γ d x es kws = some ir) : SB X w cl (.Call (.Name x p) es kws pos) ir := by
  unfold cSum at h
  split at h
  · split at h
    · rename_i hc
      obtain ⟨rfl, rfl, rfl, c1, c2, c3⟩ := hc
      obtain ⟨i, hi, rfl⟩ := Option.map_eq_some_iff.mp h
      exact se_sumS ok.room.units ok.room.calm (gl_ok ok c1).1 (ok.mg _ (by decide +kernel)) (gl_ok ok c2).1 (ok.mg _ (by decide +kernel)) c3 (hr Γ X w cl 0 _ i ok hi).v
    · cases h
  · split at h
    · rename_i hc
      obtain ⟨rfl, rfl, rfl, rfl, c1, c2, c3⟩ := hc
      obtain ⟨i, hi, rfl⟩ := Option.map_eq_some_iff.mp h
      exact se_sumSR ok.room.units ok.room.calm (gl_ok ok c1).1 (ok.mg _ (by decide +kernel)) (gl_ok ok c2).1 (ok.mg _ (by decide +kernel)) c3 (hr Γ X w cl 0 _ i ok hi).v
    · cases h
  · cases h
def cLit (f : Expr → Option Ex) : List (Option Expr) → List Expr → Option (List (Ex × Ex))
  | [], [] => some []
  | some k :: ks, v :: vs => (match f k, f v, cLit f ks vs with
    | some i, some j, some r => some ((i, j) :: r)
    | _, _, _ => none)
  | _, _ => none
theorem cLit_ok {f : Expr → Option Ex} {X : Cx} {w : Wish} {cl : Cl} (hf : ∀ e ir, f e = some ir → SB X w cl e ir) : ∀ {ks : List (Option Expr)} {vs : List Expr} {r : List (Ex × Ex)}, cLit f ks vs = some r → LitOk X w cl ks vs r
  | [], [], r, h => by cases h; trivial
  | some k :: ks, v :: vs, r, h => by
    unfold cLit at h
    split at h
    · rename_i i j r' h1 h2 h3
      cases h
      exact ⟨(hf _ _ h1).v, (hf _ _ h2).v, cLit_ok hf h3⟩
    · cases h
  | [], _ :: _, r, h => by cases h
  | none :: _, _, r, h => by cases h
  | some _ :: _, [], r, h => by cases h
def cSst (rec : Rec) (Γ : Cn) (d : Nat) (x : Str) (es : List Expr) (kws : List Keyword) : Option Ex := match es, kws with
  | [.Call (.Name y _) [a] [] _], [] => if x = "sorted" ∧ y = "set" ∧ glB Γ x = true ∧ glB Γ y = true ∧ notStar a = true then (rec Γ 0 a).map fun i => .sst (decide (0 < d)) i else none
  | _, _ => none
theorem cSst_ok {rec : Rec} (hr : RecOk rec) {Γ : Cn} {X : Cx} {w : Wish} {cl : Cl} (ok : XOk X w cl Γ) {d : Nat} {x : Str} {es : List Expr} {kws : List Keyword} {ir : Ex} {p pos : Pos} (h : cSst rec Γ d x es kws = some ir) : SB X w cl (.Call (.Name x p) es kws pos) ir := by
  unfold cSst at h
  split at h
  · split at h
    · rename_i hc
      obtain ⟨rfl, rfl, c1, c2, c3⟩ := hc
      obtain ⟨i, hi, rfl⟩ := Option.map_eq_some_iff.mp h
      exact se_sst ok.room.calm (gl_ok ok c1).1 (ok.mg _ (by decide +kernel)) (gl_ok ok c2).1 (ok.mg _ (by decide +kernel)) c3 (hr Γ X w cl 0 _ i ok hi).v
    · cases h
  · cases h
def xcOf (Γ : Cn) (x : Str) : Option String := if glB Γ x = true then Γ.xs.find? (fun c => decide (x = Str.ofString c)) else none
theorem xcOf_ok {X : Cx} {w : Wish} {cl : Cl} {Γ : Cn} (ok : XOk X w cl Γ) (hd : Γ.dfn = true) {x : Str} {c : String} (h : xcOf Γ x = some c) : x = Str.ofString c ∧ Gl X x ∧ (x == ("__debug__" : Str)) = false ∧ MkOk X c := by
  unfold xcOf at h
  split at h
  · rename_i hg
    obtain ⟨g1, g2⟩ := gl_ok ok hg
    exact ⟨of_decide_eq_true (List.find?_some (p := fun c => decide (x = Str.ofString c)) h), g1, g2, (ok.df hd).mks c (List.mem_of_find?_eq_some h)⟩
  · cases h
def cXmk (rec : Rec) (Γ : Cn) (x : Str) (es : List Expr) (kws : List Keyword) : Option Ex := if Γ.dfn = true then (match xcOf Γ x with
  | some c => (match es, kws with
    | [a], [] => if notStar a = true then (rec Γ 0 a).map (.xmk c) else none
    | [], [⟨some n, a, _⟩] => if n = xF c then (rec Γ 0 a).map (.xmk c) else none
    | _, _ => none)
  | none => none) else none
theorem cXmk_ok {rec : Rec} (hr : RecOk rec) {Γ : Cn} {X : Cx} {w : Wish} {cl : Cl} (ok : XOk X w cl Γ) {x : Str} {es : List Expr} {kws : List Keyword} {ir : Ex} {p pos : Pos} (h : cXmk rec Γ x es kws = some ir) : SB X w cl (.Call (.Name x p) es kws pos) ir := by
  have rr : ∀ d e ir, rec Γ d e = some ir → SB X w cl e ir := fun d e ir => hr Γ X w cl d e ir ok
  unfold cXmk at h
  split at h
  · rename_i hd
    have df := ok.df hd
    have hx := passes_call (X := X) (E := fun _ _ _ => False) ok.tk fun _ _ _ _ z => z.elim
    split at h
    · rename_i c hc
      obtain ⟨rfl, g1, g2, M⟩ := xcOf_ok ok hd hc
      split at h
      · rename_i a
        split at h
        · rename_i hn
          obtain ⟨i, hi, rfl⟩ := Option.map_eq_some_iff.mp h
          exact sb_of (se_xmk df.hs df.hf df.hex M hx g1 g2 hn (rr _ _ _ hi).v) fun _ => rfl
        · cases h
      · rename_i n a kp
        split at h
        · rename_i hn
          subst hn
          obtain ⟨i, hi, rfl⟩ := Option.map_eq_some_iff.mp h
          exact sb_of (se_xmkk df.hs df.hf df.hex M hx g1 g2 (rr _ _ _ hi).v) fun _ => rfl
        · cases h
      · cases h
    · cases h
  · cases h
def cNew (rec : Rec) (Γ : Cn) (d : Nat) (e : Expr) : Option Ex := match e with
  | .Call (.Attribute o n ap) es kws cp => cMeth rec Γ d o n ap cp es kws
  | .Call (.Name x _) es kws _ => (match cXmk rec Γ x es kws with
    | some i => some i
    | none => match cSst rec Γ d x es kws with
    | some i => some i
    | none => match cMin rec Γ x es kws with
    | some i => some i
    | none => match cSum rec Γ d x es kws with
      | some i => some i
      | none => cMake rec Γ x es kws)
  | .Subscript e (.Slice none none (some (.UnaryOp .USub (.Constant (.int 1) _ _) _)) _) _ => (rec Γ 0 e).map (.rev (decide (0 < d)))
  | .ListComp elt [⟨tg, iter, ifs, 0⟩] scope _ => (match cLck rec Γ tg iter with
    | some (it, ix) => (cCompG (some it) rec Γ d elt tg ifs scope).map fun r => .lock ix r.1
    | none => none)
  | .DictComp kx vx [⟨tg, iter, ifs, 0⟩] scope _ => (match cLck rec Γ tg iter with
    | some (it, ix) => (match cBlkG (some it) rec Γ tg ifs scope, rec (Γ.inn scope) 0 kx, rec (Γ.inn scope) 0 vx with
      | some (t, it, cs), some ik, some iv => some (.lock ix (.dcomp (decide (0 < d)) true ik iv t it cs ((ownOf Γ scope.names).map (·.2))))
      | _, _, _ => none)
    | none => none)
  | .Dict [] [] _ => some (.dnew (decide (0 < d)) (decide (8 < d)))
  | .Dict ks vs _ => (match cLit (rec Γ (if d = 7 then 1 else 0)) ks vs with
    | some r => if r.isEmpty = false ∧ r.length ≤ 15 then some (.dlit (decide (0 < d)) (decide (8 < d)) (flatE r)) else none
    | none => none)
  | _ => none
theorem cMake_ok {rec : Rec} (hr : RecOk rec) {Γ : Cn} {X : Cx} {w : Wish} {cl : Cl} (ok : XOk X w cl Γ) {x : Str} {es : List Expr} {kws : List Keyword} {ir : Ex} {p pos : Pos} (h : cMake rec Γ x es kws = some ir) : SB X w cl (.Call (.Name x p) es kws pos) ir := by
  unfold cMake at h
  split at h
  · rename_i hg
    obtain ⟨g1, g2⟩ := gl_ok ok hg
    split at h
    · rename_i g c hs
      obtain ⟨m1, m2, m3, m4⟩ := mkOf_ok hs
      have F := ok.fns g m1
      unfold SgOk at F
      rw [m2] at F
      have F : if g.nm = "__init__" then MakeOk X w.rx cl c g.id g.ps else MethOk X w.rx cl c g.nm g.id g.ps := F
      rw [if_pos m4] at F
      split at h
      · rename_i is is2 perm h1 h2 h3
        cases h
        obtain ⟨a1, a2, a3⟩ := cArgs_ok (fun d e ir => hr Γ X w cl d e ir ok) h1
        obtain ⟨b1, b2, b3⟩ := cKs_ok (fun e ir => hr Γ X w cl 0 e ir ok) h2
        exact se_mk ok.tk ok.room.guards F m3 g1 g2 a2 b2 rfl h3 a1 b1 a3 b3
      · cases h
    · cases h
  · cases h
theorem cNew_ok {rec : Rec} (hr : RecOk rec) : RecOk (cNew rec) := by
  intro Γ X w cl d e ir ok h
  have rr : ∀ d e ir, rec Γ d e = some ir → SB X w cl e ir := fun d e ir => hr Γ X w cl d e ir ok
  have hu : X.A.units + 65 < cLine := by have := ok.room.units; omega
  unfold cNew at h
  split at h
  · unfold cMeth at h
    split at h
    · rename_i g c hs
      obtain ⟨m1, m2, m3, m4⟩ := mtOf_ok hs
      have F := ok.fns g m1
      unfold SgOk at F
      rw [m2] at F
      have F : if g.nm = "__init__" then MakeOk X w.rx cl c g.id g.ps else MethOk X w.rx cl c g.nm g.id g.ps := F
      rw [if_neg m4, m3] at F
      split at h
      · rename_i hc
        split at h
        · rename_i io is is2 perm h0 h1 h2 h3
          cases h
          obtain ⟨a1, a2, a3⟩ := cArgs_ok (fun d e ir => hr Γ X w cl d e ir ok) h1
          obtain ⟨b1, b2, b3⟩ := cKs_ok (fun e ir => hr Γ X w cl 0 e ir ok) h2
          exact se_meth ok.tk ok.room.guards F (rr _ _ _ h0).v hc.1 hc.2.1 hc.2.2 a2 b2 rfl h3 a1 b1 a3 b3
        · cases h
      · cases h
    · cases h
  · split at h
    · rename_i i hi
      cases h
      exact cXmk_ok hr ok hi
    split at h
    · rename_i i hi
      cases h
      exact cSst_ok hr ok hi
    split at h
    · rename_i i hi
      cases h
      exact cMin_ok hr ok hi
    · split at h
      · rename_i i hi
        cases h
        exact cSum_ok hr ok hi
      · exact cMake_ok hr ok h
  · obtain ⟨i, hi, rfl⟩ := Option.map_eq_some_iff.mp h
    exact se_rev (rr _ _ _ hi).v
  · split at h
    · rename_i it ix hl
      obtain ⟨⟨e', own, t, it', cs, ir'⟩, hq, he⟩ := Option.map_eq_some_iff.mp h
      have he : Ex.lock ix e' = ir := he
      subst he
      obtain ⟨rfl, c1, c2, c3, c4, c5⟩ := cCompG_ok hr ok (fun it h => by cases h; exact cLck_ok hr ok hl) hq
      exact se_lock (se_comp ok.room.calm ok.nd c1 c2 c3 c4 c5).v fun _ => rfl
    · cases h
  · split at h
    · rename_i it ix hl
      split at h
      · rename_i t it' cs ik iv h1 h2 h3
        cases h
        obtain ⟨c1, c2, c3, c4, c5⟩ := cBlkG_ok hr ok (fun it h => by cases h; exact cLck_ok hr ok hl) h1
        exact se_lock (se_dcomp hu ok.room.calm ok.nd c1 c2 c3 c4 fun s H C cell fp => ⟨(c5 s H C cell fp).1, (c5 s H C cell fp).2.1, (c5 s H C cell fp).2.2 _ _ _ h2, (c5 s H C cell fp).2.2 _ _ _ h3⟩).v fun _ => rfl
      · cases h
    · cases h
  · cases h
    exact se_dnew
  · split at h
    · rename_i r hl
      split at h
      · rename_i hc
        cases h
        exact se_dlit hu (cLit_ok (rr _) hl) (fun z => by rw [z] at hc; exact absurd hc.1 (by decide)) hc.2
      · cases h
    · cases h
  · cases h
def stepX (rec : Rec) (Γ : Cn) (d : Nat) (e : Expr) : Option Ex := match cNew rec Γ d e with
  | some ir => some ir
  | none => stepE rec Γ d e
theorem stepX_ok {rec : Rec} (hr : RecOk rec) : RecOk (stepX rec) := by
  intro Γ X w cl d e ir ok h
  unfold stepX at h
  split at h
  · rename_i i hi
    cases h
    exact cNew_ok hr Γ X w cl d e _ ok hi
  · exact stepE_ok hr Γ X w cl d e ir ok h
def cE : Nat → Rec
  | 0 => fun _ _ _ => none
  | n + 1 => stepX (cE n)
theorem cE_ok : ∀ n : Nat, RecOk (cE n)
  | 0 => fun _ _ _ _ _ _ _ _ h => by cases h
  | n + 1 => stepX_ok (cE_ok n)
end Tw
set_option Elab.async false
set_option linter.all false
set_option autoImplicit false
set_option maxRecDepth 100000
namespace Tw
open PySem PySem.Spec PyProof.Rows L2
def swN (sc : Scope) (ts : List Expr) : List Str := ts.filterMap fun t => match t with
  | .Name x p => if sc.names.lookup x == some .local && p.line == (ts.head?.map fun u => u.pos.line).getD 0 then some x else none
  | _ => none
def isStar : Expr → Bool
  | .Starred .. => true
  | _ => false
def swC (sc : Scope) (ts vs : List Expr) : Option (Option (List Str)) :=
  if !(ts.length == 2 || ts.length == 3) || vs.length != ts.length then some none
  else if vs.any isStar then some none
  else if (swN sc ts).length != ts.length || (swN sc ts).eraseDups.length != (swN sc ts).length then some none
  else if vs.all (foldedForSure 8) then some none
  else if vs.all (constantsAlone 8) then none
  else some (some (swN sc ts))
theorem swC_ok {X : Cx} {w : Wish} {cl : Cl} {Γ : Cn} (ok : XOk X w cl Γ) {ts vs : List Expr} {k k2 : Nat} {p p2 : Pos} {r : Option (List Str)} (h : swC Γ.sc ts vs = some r) : swappedStores [.Tuple ts k p] (.Tuple vs k2 p2) X.env = pure r := by
  have hb : X.env.blockKind = .function := by
    unfold Env.blockKind
    rw [ok.kind]
    rfl
  rw [← ok.sc] at h
  show (if (!(ts.length == 2 || ts.length == 3) || vs.length != ts.length || X.env.blockKind != .function) = true then pure none
    else if vs.any isStar = true then pure none
    else if ((swN X.env.scope ts).length != ts.length || (swN X.env.scope ts).eraseDups.length != (swN X.env.scope ts).length) = true then pure none
    else if vs.all (foldedForSure 8) = true then pure none
    else if vs.all (constantsAlone 8) = true then (do
      unsupported "assign.tuple-of-constant-expressions:order-of-the-stores"
      pure (some (swN X.env.scope ts)))
    else pure (some (swN X.env.scope ts))) = (pure r : Sem (Option (List Str)))
  unfold swC at h
  rw [hb]
  have e0 : (ScopeKind.function != ScopeKind.function) = false := by decide
  rw [e0, Bool.or_false]
  split at h
  · rename_i c1
    cases h
    rw [if_pos c1]
  · rename_i c1
    rw [if_neg c1]
    split at h
    · rename_i c2
      cases h
      rw [if_pos c2]
    · rename_i c2
      rw [if_neg c2]
      split at h
      · rename_i c3
        cases h
        rw [if_pos c3]
      · rename_i c3
        rw [if_neg c3]
        split at h
        · rename_i c4
          cases h
          rw [if_pos c4]
        · rename_i c4
          rw [if_neg c4]
          split at h
          · cases h
          · rename_i c5
            cases h
            rw [if_neg c5]
def swB (sc : Scope) (t : Str) (p : Pos) (scope : Scope) (vp : Pos) : Bool :=
  sc.names.lookup t == some .local && p.line == vp.line && !(scope.names.any fun (n, k) => n == t && (k == .local || k == .cell))
theorem swB_ok {X : Cx} {w : Wish} {cl : Cl} {Γ : Cn} (ok : XOk X w cl Γ) {elt : Expr} {gs : List Comprehension} {scope : Scope} {t : Str} {p vp : Pos} {l : Nat} : swapsWith (.ListComp elt gs scope vp) (some (.Name t p)) l X.env = pure (swB Γ.sc t p scope vp) := by
  have hb : X.env.blockKind = .function := by
    unfold Env.blockKind
    rw [ok.kind]
    rfl
  show (pure (X.env.blockKind == .function && X.env.scope.names.lookup t == some .local && p.line == vp.line && !(scope.names.any fun (n, k) => n == t && (k == .local || k == .cell))) : Sem Bool) = _
  rw [hb, ok.sc]
  unfold swB
  have e0 : (ScopeKind.function == ScopeKind.function) = true := by decide
  rw [e0, Bool.true_and]
theorem sole_eq (t e : Expr) (l : Nat) (env : Env) : swapsWithSole [t] e l env = swapsWith e (some t) l env := by
  first | rfl | (unfold swapsWithSole; rfl)
def notComp : Expr → Bool
  | .ListComp .. => false
  | .SetComp .. => false
  | .DictComp .. => false
  | _ => true
theorem notComp_ok {e : Expr} (h : notComp e = true) (t : Option Expr) (l : Nat) (env : Env) : swapsWith e t l env = pure false := by
  cases e <;> first | rfl | cases h
theorem sw_tup (e : Expr) (ts : List Expr) (k : Nat) (p : Pos) (l : Nat) (env : Env) : swapsWith e (some (.Tuple ts k p)) l env = pure false := by
  cases e <;> rfl
theorem sw_sub (e o i : Expr) (p : Pos) (l : Nat) (env : Env) : swapsWith e (some (.Subscript o i p)) l env = pure false := by
  cases e <;> rfl
def mutOf (Γ : Cn) (x : Str) : Nat := match look x Γ.muts with
  | some p => p.2
  | none => 0
def sbD (Γ : Cn) (o : Expr) : Nat := match o with
  | .Name x _ => if mutOf Γ x = 7 then 1 else 0
  | _ => 0
def locL (Γ : Cn) (x : Str) : Bool := Γ.sc.names.lookup x == some .local
theorem locL_ok {X : Cx} {w : Wish} {cl : Cl} {Γ : Cn} (ok : XOk X w cl Γ) {x : Str} (h : locL Γ x = true) : X.env.scope.names.lookup x = some .local := by
  rw [ok.sc]
  unfold locL at h
  simpa using h
def tgDep (Γ : Cn) : List Expr → Nat
  | [] => 0
  | .Name x _ :: es => max (mutOf Γ x) (tgDep Γ es)
  | _ :: es => tgDep Γ es
def cPlain (rec : Rec) (Γ : Cn) (d : Nat) (tg e : Expr) : Option Stm := if notStar tg then (match cTg Γ 8 tg, rec Γ d e with
  | some t, some i => some (.asg t i)
  | _, _ => none) else none
def cPar (rec : Rec) (Γ : Cn) (ts vs : List Expr) (names : List Str) : Option Stm := match ts, vs with
  | [.Name x _, .Name y _], [a, b] => if names = [x, y] ∧ locL Γ x = true ∧ locL Γ y = true then (match slot Γ x, slot Γ y, cArgs (rec Γ) [mutOf Γ x, mutOf Γ y] [a, b] with
    | some i, some j, some [ia, ib] => if i ≠ j then some (.asg (.tup [.var i, .var j]) (.tup [ia, ib])) else none
    | _, _, _ => none) else none
  | [.Name x _, .Name y _, .Name z _], [a, b, c] => if names = [x, y, z] ∧ locL Γ x = true ∧ locL Γ y = true ∧ locL Γ z = true then (match slot Γ x, slot Γ y, slot Γ z, cArgs (rec Γ) [mutOf Γ x, mutOf Γ y, mutOf Γ z] [a, b, c] with
    | some i, some j, some l, some [ia, ib, ic] => if i ≠ j ∧ i ≠ l ∧ j ≠ l then some (.asg (.tup [.var i, .var j, .var l]) (.tup [ia, ib, ic])) else none
    | _, _, _, _ => none) else none
  | _, _ => none
def cAsg (rec : Rec) (Γ : Cn) (tg e : Expr) : Option Stm := match tg with
  | .Name x p => (match e with
    | .ListComp elt [⟨tg2, iter, ifs, 0⟩] scope cp => if swB Γ.sc x p scope cp then (if locL Γ x then (match slot Γ x, cComp rec Γ (mutOf Γ x) elt tg2 iter ifs scope with
        | some i, some r => some (.asg (.var i) r.1)
        | _, _ => none) else none)
      else cPlain rec Γ (mutOf Γ x) tg e
    | .ListComp elt [⟨tg2, iter, ifs, 0⟩, ⟨tg3, iter3, ifs3, 0⟩] scope cp => if swB Γ.sc x p scope cp then (if locL Γ x then (match slot Γ x, cComp2 rec Γ (mutOf Γ x) elt tg2 iter ifs tg3 iter3 ifs3 scope with
        | some i, some r => some (.asg (.var i) r.1)
        | _, _ => none) else none)
      else cPlain rec Γ (mutOf Γ x) tg e
    | _ => if notComp e then cPlain rec Γ (mutOf Γ x) tg e else none)
  | .Tuple ts _ _ => (match e with
    | .Tuple vs _ _ => (match swC Γ.sc ts vs with
      | some none => cPlain rec Γ (tgDep Γ ts) tg e
      | some (some names) => cPar rec Γ ts vs names
      | none => none)
    | _ => cPlain rec Γ (tgDep Γ ts) tg e)
  | .Subscript o i _ => if okSub i = true then (match rec Γ 0 o, rec Γ 0 i, rec Γ (sbD Γ o) e with
    | some a, some b, some c => some (.sub a b c)
    | _, _, _ => none) else none
  | _ => none
theorem cPlain_ok {rec : Rec} (hr : RecOk rec) {Γ : Cn} {X : Cx} {w : Wish} {cl : Cl} (ok : XOk X w cl Γ) {d : Nat} {tg e : Expr} {pos : Pos} {st : Stm} (h : cPlain rec Γ d tg e = some st) (hs : swapsWithSole [tg] e pos.line X.env = pure false) (hw : swappedStores [tg] e X.env = pure none) : S1 X w cl (.Assign [tg] e pos) st := by
  unfold cPlain at h
  split at h
  · rename_i hn
    split at h
    · rename_i t i h1 h2
      cases h
      exact s1_asg (sc := X.s_0) (hr Γ X w cl d e i ok h2).v ((cTg_ok ok 8).1 _ _ h1) hs hw (by rw [assignEach_cons hn]; rfl)
    · cases h
  · cases h
theorem cPar_ok {rec : Rec} (hr : RecOk rec) {Γ : Cn} {X : Cx} {w : Wish} {cl : Cl} (ok : XOk X w cl Γ) {ts vs : List Expr} {names : List Str} {k k2 : Nat} {p p2 pos : Pos} {st : Stm} (h : cPar rec Γ ts vs names = some st)
    (hw : swappedStores [.Tuple ts k p] (.Tuple vs k2 p2) X.env = pure (some names)) : S1 X w cl (.Assign [.Tuple ts k p] (.Tuple vs k2 p2) pos) st := by
  have rr : ∀ d e ir, rec Γ d e = some ir → SB X w cl e ir := fun d e ir => hr Γ X w cl d e ir ok
  unfold cPar at h
  split at h
  · split at h
    · rename_i hc
      obtain ⟨rfl, c1, c2⟩ := hc
      split at h
      · rename_i i j ia ib h1 h2 h3
        split at h
        · rename_i hij
          cases h
          exact s1_par2 ok.room.calm ok.nd (slot_ok ok h1) (slot_ok ok h2) hij (locL_ok ok c1) (locL_ok ok c2) (cArgs_ok rr h3).1 hw
        · cases h
      · cases h
    · cases h
  · split at h
    · rename_i hc
      obtain ⟨rfl, c1, c2, c3⟩ := hc
      split at h
      · rename_i i j l ia ib ic h1 h2 h3 h4
        split at h
        · rename_i hij
          cases h
          exact s1_par3 ok.room.calm ok.nd (slot_ok ok h1) (slot_ok ok h2) (slot_ok ok h3) hij.1 hij.2.1 hij.2.2 (locL_ok ok c1) (locL_ok ok c2) (locL_ok ok c3) (cArgs_ok rr h4).1 hw
        · cases h
      · cases h
    · cases h
  · cases h
theorem cAsg_ok {rec : Rec} (hr : RecOk rec) {Γ : Cn} {X : Cx} {w : Wish} {cl : Cl} (ok : XOk X w cl Γ) {tg e : Expr} {pos : Pos} {st : Stm} (h : cAsg rec Γ tg e = some st) : S1 X w cl (.Assign [tg] e pos) st := by
  unfold cAsg at h
  split at h
  · rename_i x p
    split at h
    · rename_i elt tg2 iter ifs scope cp
      split at h
      · rename_i hsw
        split at h
        · rename_i hl
          split at h
          · rename_i i r h1 h2
            cases h
            obtain ⟨e', own, t, it, cs, ir'⟩ := r
            obtain ⟨rfl, c1, c2, c3, c4, c5⟩ := cComp_ok hr ok h2
            exact s1_lc ok.room.calm ok.nd (slot_ok ok h1) (locL_ok ok hl) (by rw [swB_ok ok, hsw]) c1 c2 c3 c4 c5
          · cases h
        · cases h
      · rename_i hsw
        refine cPlain_ok hr ok h ?_ rfl
        rw [sole_eq, swB_ok ok]
        rw [show swB Γ.sc x p scope cp = false from by simpa using hsw]
    · rename_i elt tg2 iter ifs tg3 iter3 ifs3 scope cp
      split at h
      · rename_i hsw
        split at h
        · rename_i hl
          split at h
          · rename_i i r h1 h2
            cases h
            obtain ⟨e', own, ⟨t, it, cs⟩, ⟨t2, it2, cs2⟩, ir'⟩ := r
            obtain ⟨rfl, c1, c2, c3, c4, c5, c6, c7⟩ := cComp2_ok hr ok h2
            exact s1_lc2 ok.room.calm ok.nd (slot_ok ok h1) (locL_ok ok hl) (by rw [swB_ok ok, hsw]) c1 c2 c3 c4 c5 c6 c7
          · cases h
        · cases h
      · rename_i hsw
        refine cPlain_ok hr ok h ?_ rfl
        rw [sole_eq, swB_ok ok]
        rw [show swB Γ.sc x p scope cp = false from by simpa using hsw]
    · split at h
      · rename_i hn
        exact cPlain_ok hr ok h (by rw [sole_eq]; exact notComp_ok hn _ _ _) rfl
      · cases h
  · rename_i ts k p
    split at h
    · rename_i vs k2 p2
      split at h
      · rename_i hc
        exact cPlain_ok hr ok h rfl (swC_ok ok hc)
      · rename_i names hc
        exact cPar_ok hr ok h (swC_ok ok hc)
      · cases h
    · rename_i hne
      refine cPlain_ok hr ok h (by rw [sole_eq]; exact sw_tup _ _ _ _ _ _) ?_
      cases e <;> first | rfl | exact absurd rfl (hne _ _ _)
  · rename_i o i p
    split at h
    · rename_i hc
      split at h
      · rename_i a b c h1 h2 h3
        cases h
        exact s1_sub (by have := ok.room.units; omega) hc (hr Γ X w cl 0 o a ok h1).v (hr Γ X w cl 0 i b ok h2).v (hr Γ X w cl _ e c ok h3).v (by rw [sole_eq]; exact sw_sub _ _ _ _ _ _) rfl
      · cases h
    · cases h
  · cases h
def cNms (Γ : Cn) : List Expr → Option (List String)
  | [] => some []
  | .Name x _ :: es => (match xcOf Γ x, cNms Γ es with
    | some c, some cs => some (c :: cs)
    | _, _ => none)
  | _ :: _ => none
theorem cNms_ok {X : Cx} {w : Wish} {cl : Cl} {Γ : Cn} (ok : XOk X w cl Γ) (hd : Γ.dfn = true) : ∀ {es : List Expr} {cs : List String}, cNms Γ es = some cs → NamesAll X es (cs.map fun c => .ref (xA X.K c)) ∧ ∀ c ∈ cs, XcG X.K c
  | [], cs, h => by cases h; exact ⟨.nil, by simp⟩
  | e :: es, cs, h => by
    cases e with
    | Name x p =>
      have h : (match xcOf Γ x, cNms Γ es with
        | some c, some cs => some (c :: cs)
        | _, _ => none) = some cs := h
      split at h
      · rename_i c cs' h1 h2
        cases h
        obtain ⟨e1, g1, g2, M⟩ := xcOf_ok ok hd h1
        obtain ⟨n1, n2⟩ := cNms_ok ok hd h2
        refine ⟨.cons ⟨g1, g2, .inl (by rw [e1]; exact M.mg)⟩ n1, fun u hu => ?_⟩
        rcases List.mem_cons.mp hu with rfl | hu
        · exact M.G
        · exact n2 u hu
      · cases h
    | _ => cases h
def cTst (Γ : Cn) (t : Expr) : Option (List String) := match t with
  | .Name x _ => (xcOf Γ x).map fun c => [c]
  | .Tuple es _ _ => (match cNms Γ es with
    | some cs => if cs.length ≤ 100 then some cs else none
    | none => none)
  | _ => none
theorem cTst_ok {X : Cx} {w : Wish} {cl : Cl} {Γ : Cn} (ok : XOk X w cl Γ) (hd : Γ.dfn = true) {t : Expr} {cs : List String} (h : cTst Γ t = some cs) : TestIs X t (cs.map fun c => .ref (xA X.K c)) ∧ ∀ c ∈ cs, XcG X.K c := by
  unfold cTst at h
  split at h
  · rename_i x p
    obtain ⟨c, hc, rfl⟩ := Option.map_eq_some_iff.mp h
    obtain ⟨e1, g1, g2, M⟩ := xcOf_ok ok hd hc
    exact ⟨.inl ⟨_, _, _, rfl, rfl, g1, g2, .inl (by rw [e1]; exact M.mg)⟩, fun u hu => by rw [List.mem_singleton.mp hu]; exact M.G⟩
  · rename_i es k p
    split at h
    · rename_i cs' h1
      split at h
      · rename_i hl
        cases h
        obtain ⟨n1, n2⟩ := cNms_ok ok hd h1
        exact ⟨.inr ⟨_, _, _, rfl, n1, by rw [List.length_map]; exact hl⟩, n2⟩
      · cases h
    · cases h
  · cases h
abbrev RecS := Cn → List Stmt → Option (List Stm)
def RecSOk (recS : RecS) : Prop := ∀ (Γ : Cn) (X : Cx) (w : Wish) (cl : Cl) (sts : List Stmt) (irs : List Stm), XOk X w cl Γ → PassesOwn (model X.prog X.w) X.A X.env X.xe → recS Γ sts = some irs → SS X w cl sts irs
def stepS (rec : Rec) (recS : RecS) (Γ : Cn) (st : Stmt) : Option Stm := match st with
  | .Assign [tg] e _ => cAsg rec Γ tg e
  | .AugAssign (.Name x _) op e _ => if locB Γ x then (match slot Γ x, opB op, rec Γ 0 e with
    | some i, some o, some a => if augB o then some (.aug i o a) else none
    | _, _, _ => none) else none
  | .Expr e _ => if notComp e then (rec Γ 0 e).map .expr else none
  | .Return (some e) _ => (rec Γ Γ.ret e).map .ret
  | .Return none _ => some (.ret (.lit .non))
  | .If c a b _ => (match rec Γ 0 c, recS Γ a, recS Γ b with
    | some i, some j, some k => some (.ife i j k)
    | _, _, _ => none)
  | .While c b [] _ => (match rec Γ 0 c, recS Γ b with
    | some i, some j => some (.whl i j)
    | _, _ => none)
  | .For tg it b [] _ => (match cTg Γ 8 tg, cI rec Γ tg it, recS Γ b with
    | some t, some i, some j => some (.forr t i j)
    | _, _, _ => none)
  | .Pass _ => some .pss
  | .Break _ => some .brk
  | .Continue _ => some .cnt
  | .Raise (some (.Call (.Name x _) [e] [] _)) none _ => if Γ.dfn = true ∧ notStar e = true then (match xcOf Γ x, rec Γ 0 e with
    | some c, some i => some (.rai c i)
    | _, _ => some .never) else some .never
  | .Raise .. => some .never
  | .Assert .. => some .never
  | .Try body [.ExceptHandler (some t) (some n) [.Assign [.Name g _] (.Name n2 _) _] _] [] [] _ =>
    if Γ.dfn = true ∧ n2 = n ∧ locL Γ n = true ∧ locL Γ g = true ∧ (n == ("__debug__" : Str)) = false ∧ (n == ("__classdict__" : Str)) = false then (match slot Γ n, slot Γ g, cTst Γ t, recS Γ body with
      | some i, some j, some cs, some b => if i ≠ j then some (.tryk b cs i j) else none
      | _, _, _, _ => none) else none
  | .Try .. => some .never
  | _ => none
theorem stepS_ok {rec : Rec} {recS : RecS} (hr : RecOk rec) (hs : RecSOk recS) {Γ : Cn} {X : Cx} {w : Wish} {cl : Cl} (ok : XOk X w cl Γ) (hp : PassesOwn (model X.prog X.w) X.A X.env X.xe) {st : Stmt} {ir : Stm} (h : stepS rec recS Γ st = some ir) : S1 X w cl st ir := by
  have rr : ∀ d e ir, rec Γ d e = some ir → SB X w cl e ir := fun d e ir => hr Γ X w cl d e ir ok
  have rs : ∀ sts irs, recS Γ sts = some irs → SS X w cl sts irs := fun sts irs => hs Γ X w cl sts irs ok hp
  unfold stepS at h
  split at h
  · exact cAsg_ok hr ok h
  · split at h
    · rename_i hl
      obtain ⟨l1, l2⟩ := loc_ok ok hl
      split at h
      · rename_i i o a h1 h2 h3
        split at h
        · rename_i hb
          cases h
          exact s1_aug ok.nd (slot_ok ok h1) l1 l2 (opB_ok h2) hb (rr _ _ _ h3).v
        · cases h
      · cases h
    · cases h
  · split at h
    · rename_i hn
      obtain ⟨i, hi, rfl⟩ := Option.map_eq_some_iff.mp h
      exact s1_expr (rr _ _ _ hi).v (notComp_ok hn _ _ _)
    · cases h
  · obtain ⟨i, hi, rfl⟩ := Option.map_eq_some_iff.mp h
    exact s1_ret (rr _ _ _ hi).v
  · cases h
    exact s1_retN
  · split at h
    · rename_i i j k h1 h2 h3
      cases h
      exact s1_if (rr _ _ _ h1) (rs _ _ h2) (rs _ _ h3)
    · cases h
  · split at h
    · rename_i i j h1 h2
      cases h
      exact s1_whl hp (rr _ _ _ h1) (rs _ _ h2)
    · cases h
  · split at h
    · rename_i t i j h1 h2 h3
      cases h
      obtain ⟨c1, c2⟩ := cI_ok hr ok h2
      exact s1_for hp ok.room.calm c1 ((cTg_ok ok 8).1 _ _ h1) c2 (rs _ _ h3)
    · cases h
  · cases h; exact s1_pass
  · cases h; exact s1_brk
  · cases h; exact s1_cnt
  · split at h
    · rename_i hc
      split at h
      · rename_i c i h1 h2
        cases h
        obtain ⟨e1, g1, g2, M⟩ := xcOf_ok ok hc.1 h1
        subst e1
        exact s1_rai ok.room.calm ok.tk M (ok.df hc.1).rx (passes_call ok.tk fun _ _ _ _ z => z.elim) g1 g2 hc.2 (rr _ _ _ h2).v
      · cases h; exact s1_never
    · cases h; exact s1_never
  · cases h; exact s1_never
  · cases h; exact s1_never
  · split at h
    · rename_i hc
      obtain ⟨hd, rfl, l1, l2, d1, d2⟩ := hc
      split at h
      · rename_i i j cs b h1 h2 h3 h4
        split at h
        · rename_i hij
          cases h
          obtain ⟨t1, t2⟩ := cTst_ok ok hd h3
          have df := ok.df hd
          refine s1_tryk df.hs df.hf df.hex ok.nd (slot_ok ok h1) (slot_ok ok h2) (locL_ok ok l1) (locL_ok ok l2) d1 d2 hij t1 t2 ok.tk df.rx fun W pn xe tk pa => ?_
          exact hs Γ (X.tr pn xe) ⟨W, w.rx⟩ cl _ b ⟨ok.N, ok.nd, ok.sc, ok.kind, ok.fn, ⟨ok.room.calm, ok.room.guards, ok.room.units⟩, tk, fun g hg => (ok.fns g hg).of (fun h => ⟨h.ex⟩) (fun _ h => ⟨h.ex⟩) fun _ h => ⟨h.ex⟩, ok.mg, fun _ => ⟨df.hs, df.hf, df.hex, df.rx, fun c hc => ⟨(df.mks c hc).G, (df.mks c hc).mg, (df.mks c hc).fi⟩⟩, ok.cst⟩ pa h4
        · cases h
      · cases h
    · cases h
  · cases h; exact s1_never
  · cases h
theorem swB_okD {X : Cx} {w : Wish} {cl : Cl} {Γ : Cn} (ok : XOk X w cl Γ) {kx vx : Expr} {gs : List Comprehension} {scope : Scope} {t : Str} {p vp : Pos} {l : Nat} : swapsWith (.DictComp kx vx gs scope vp) (some (.Name t p)) l X.env = pure (swB Γ.sc t p scope vp) := by
  have hb : X.env.blockKind = .function := by
    unfold Env.blockKind
    rw [ok.kind]
    rfl
  show (pure (X.env.blockKind == .function && X.env.scope.names.lookup t == some .local && p.line == vp.line && !(scope.names.any fun (n, k) => n == t && (k == .local || k == .cell))) : Sem Bool) = _
  rw [hb, ok.sc]
  unfold swB
  have e0 : (ScopeKind.function == ScopeKind.function) = true := by decide
  rw [e0, Bool.true_and]
theorem sw_attr (e o : Expr) (f : Str) (p : Pos) (l : Nat) (env : Env) : swapsWith e (some (.Attribute o f p)) l env = pure false := by
  cases e <;> rfl
def cNewS (rec : Rec) (recS : RecS) (Γ : Cn) (st : Stmt) : Option Stm := match st with
  | .Assign [.Tuple [.Subscript o i p1, .Subscript o2 i2 p2] _ _] (.Tuple vs k2 p3) _ => (match swC Γ.sc [.Subscript o i p1, .Subscript o2 i2 p2] vs with
    | some none => if okSub i = true ∧ okSub i2 = true then (match rec Γ 0 o, rec Γ 0 i, rec Γ 0 o2, rec Γ 0 i2, rec Γ 0 (.Tuple vs k2 p3) with
      | some a, some b, some c, some e, some f => some (.sub2 a b c e f)
      | _, _, _, _, _ => none) else none
    | _ => none)
  | .Assign [.Attribute o f _] (.Dict [] [] _) _ => (rec Γ 0 o).map fun i => .setf i f (.dnew true true)
  | .Assign [.Attribute o f _] e _ => (match rec Γ 0 o, rec Γ 1 e with
    | some i, some j => some (.setf i f j)
    | _, _ => none)
  | .Assign [.Name x p] (.ListComp elt [⟨tg2, iter, ifs, 0⟩] scope cp) _ => (match cLck rec Γ tg2 iter with
    | some (it, ix) => if swB Γ.sc x p scope cp = true ∧ locL Γ x = true then (match slot Γ x, cCompG (some it) rec Γ (mutOf Γ x) elt tg2 ifs scope with
      | some i, some r => some (.lockS ix (.asg (.var i) r.1))
      | _, _ => none) else none
    | none => none)
  | .Assign [.Name x p] (.DictComp kx vx [⟨tg2, iter, ifs, 0⟩] scope cp) _ => if isTupE kx = true ∧ swB Γ.sc x p scope cp = true ∧ locL Γ x = true then (match slot Γ x, cBlk rec Γ tg2 iter ifs scope, rec (Γ.inn scope) 0 kx, rec (Γ.inn scope) 0 vx with
    | some i, some (t, it, cs), some ik, some iv => some (.asg (.var i) (.dcomp (decide (0 < mutOf Γ x)) true ik iv t it cs ((ownOf Γ scope.names).map (·.2))))
    | _, _, _, _ => none) else none
  | .AugAssign (.Subscript o i _) op e _ => if okSub i = true then (match rec Γ 0 o, rec Γ 0 i, opB op, rec Γ 0 e with
    | some a, some b, some k, some c => if augB k then some (.augs a b k c) else none
    | _, _, _, _ => none) else none
  | .For tg it b [] _ => (match cLck rec Γ tg it with
    | some (it', ix) => (match cTg Γ 8 tg, recS Γ b with
      | some t, some j => some (.lockS ix (.forr t it' j))
      | _, _ => none)
    | none => none)
  | .Try body [.ExceptHandler (some (.Name x _)) none [.Assign [.Name g _] (.Constant .none _ _) _] _] [] [] _ => if Γ.dfn = true ∧ locL Γ g = true then (match slot Γ g, xcOf Γ x, recS Γ body with
    | some j, some c, some b => some (.tryn b c j)
    | _, _, _ => none) else none
  | _ => none
theorem cNewS_ok {rec : Rec} {recS : RecS} (hr : RecOk rec) (hs : RecSOk recS) {Γ : Cn} {X : Cx} {w : Wish} {cl : Cl} (ok : XOk X w cl Γ) (hp : PassesOwn (model X.prog X.w) X.A X.env X.xe) {st : Stmt} {ir : Stm} (h : cNewS rec recS Γ st = some ir) : S1 X w cl st ir := by
  have rr : ∀ d e ir, rec Γ d e = some ir → SB X w cl e ir := fun d e ir => hr Γ X w cl d e ir ok
  have rs : ∀ sts irs, recS Γ sts = some irs → SS X w cl sts irs := fun sts irs => hs Γ X w cl sts irs ok hp
  unfold cNewS at h
  split at h
  · split at h
    · rename_i hsw
      split at h
      · rename_i hc
        split at h
        · rename_i a b c e f h1 h2 h3 h4 h5
          cases h
          exact s1_sub2 ok.room.calm (by have := ok.room.units; omega) hc.1 hc.2 (rr _ _ _ h1).v (rr _ _ _ h2).v (rr _ _ _ h3).v (rr _ _ _ h4).v (rr _ _ _ h5).v (by rw [sole_eq]; exact sw_tup _ _ _ _ _ _) (swC_ok ok hsw)
        · cases h
      · cases h
    · cases h
  · obtain ⟨i, hi, rfl⟩ := Option.map_eq_some_iff.mp h
    exact s1_setf (rr _ _ _ hi).v se_dnew.v (sw_attr _ _ _ _ _ _)
  · split at h
    · rename_i i j h1 h2
      cases h
      exact s1_setf (rr _ _ _ h1).v (rr _ _ _ h2).v (sw_attr _ _ _ _ _ _)
    · cases h
  · split at h
    · rename_i it ix hl
      split at h
      · rename_i hc
        split at h
        · rename_i i r h1 h2
          cases h
          obtain ⟨e', own, t, it', cs, ir'⟩ := r
          obtain ⟨rfl, c1, c2, c3, c4, c5⟩ := cCompG_ok hr ok (fun it h => by cases h; exact cLck_ok hr ok hl) h2
          exact s1_lock (s1_lc ok.room.calm ok.nd (slot_ok ok h1) (locL_ok ok hc.2) (by rw [swB_ok ok, hc.1]) c1 c2 c3 c4 c5)
        · cases h
      · cases h
    · cases h
  · split at h
    · rename_i hc
      split at h
      · rename_i i t it cs ik iv h1 h2 h3 h4
        cases h
        obtain ⟨c1, c2, c3, c4, c5⟩ := cBlk_ok hr ok h2
        exact s1_nc (by have := ok.room.units; omega) ok.room.calm ok.nd (slot_ok ok h1) (locL_ok ok hc.2.2) (by rw [swB_okD ok, hc.2.1]) c1 c2 c3 c4 fun s H C cell fp => ⟨(c5 s H C cell fp).1, (c5 s H C cell fp).2.1, (c5 s H C cell fp).2.2 _ _ _ h3, (c5 s H C cell fp).2.2 _ _ _ h4⟩
      · cases h
    · cases h
  · split at h
    · rename_i hc
      split at h
      · rename_i a b k c h1 h2 h3 h4
        split at h
        · rename_i hb
          cases h
          exact s1_augs (by have := ok.room.units; omega) hc (rr _ _ _ h1).v (rr _ _ _ h2).v (rr _ _ _ h4).v (opB_ok h3) hb
        · cases h
      · cases h
    · cases h
  · split at h
    · rename_i it ix hl
      split at h
      · rename_i t j h1 h2
        cases h
        obtain ⟨c1, c2⟩ := cLck_ok hr ok hl
        exact s1_lock (s1_for hp ok.room.calm c1 ((cTg_ok ok 8).1 _ _ h1) c2 (rs _ _ h2))
      · cases h
    · cases h
  · split at h
    · rename_i hc
      obtain ⟨hd, l1⟩ := hc
      split at h
      · rename_i j c b h1 h2 h3
        cases h
        obtain ⟨e1, g1, g2, M⟩ := xcOf_ok ok hd h2
        have df := ok.df hd
        refine s1_tryn df.hs df.hf ok.nd (slot_ok ok h1) (locL_ok ok l1) ⟨g1, g2, .inl (by rw [e1]; exact M.mg)⟩ M.G ok.tk df.rx fun W pn xe tk pa => ?_
        exact hs Γ (X.tr pn xe) ⟨W, w.rx⟩ cl _ b ⟨ok.N, ok.nd, ok.sc, ok.kind, ok.fn, ⟨ok.room.calm, ok.room.guards, ok.room.units⟩, tk, fun g hg => (ok.fns g hg).of (fun h => ⟨h.ex⟩) (fun _ h => ⟨h.ex⟩) fun _ h => ⟨h.ex⟩, ok.mg, fun _ => ⟨df.hs, df.hf, df.hex, df.rx, fun c hc => ⟨(df.mks c hc).G, (df.mks c hc).mg, (df.mks c hc).fi⟩⟩, ok.cst⟩ pa h3
      · cases h
    · cases h
  · cases h
def stepT (rec : Rec) (recS : RecS) (Γ : Cn) (st : Stmt) : Option Stm := match cNewS rec recS Γ st with
  | some ir => some ir
  | none => stepS rec recS Γ st
theorem stepT_ok {rec : Rec} {recS : RecS} (hr : RecOk rec) (hs : RecSOk recS) {Γ : Cn} {X : Cx} {w : Wish} {cl : Cl} (ok : XOk X w cl Γ) (hp : PassesOwn (model X.prog X.w) X.A X.env X.xe) {st : Stmt} {ir : Stm} (h : stepT rec recS Γ st = some ir) : S1 X w cl st ir := by
  unfold stepT at h
  split at h
  · rename_i i hi
    cases h
    exact cNewS_ok hr hs ok hp hi
  · exact stepS_ok hr hs ok hp h
def cSs : Nat → RecS
  | 0, _, _ => none
  | _ + 1, _, [] => some []
  | n + 1, Γ, st :: r => match st with
    | .Expr (.Constant (.str _) _ _) _ => cSs n Γ r
    | st => (cSs n Γ r).map fun is => (stepT (cE 30) (cSs n) Γ st).getD .never :: is
theorem cSs_ok : ∀ n : Nat, RecSOk (cSs n)
  | 0 => fun _ _ _ _ _ _ _ _ h => by cases h
  | n + 1 => fun Γ X w cl sts irs ok hp h => by
    cases sts with
    | nil => cases h; exact ss_nil
    | cons st r =>
      unfold cSs at h
      split at h
      · exact ss_doc (cSs_ok n Γ X w cl r irs ok hp h)
      · obtain ⟨is, h2, rfl⟩ := Option.map_eq_some_iff.mp h
        refine ss_cons ?_ (cSs_ok n Γ X w cl r is ok hp h2)
        cases h1 : stepT (cE 30) (cSs n) Γ st with
        | some i => exact stepT_ok (cE_ok 30) (cSs_ok n) ok hp h1
        | none => exact s1_never
end Tw
set_option Elab.async false
set_option linter.all false
set_option autoImplicit false
set_option maxRecDepth 100000
namespace Tw
open PySem PySem.Spec PyProof.Rows L2
section
variable {K : PySem.W.Frag} {m m' : Mp} {H H' : Hp} {S S1 S' : Hs}
theorem out_down (e : Ext m H m' H') {a : Ad} (h : m'.out a) : m.out a := by
  obtain ⟨t, et, _⟩ := e.grow
  exact ⟨fun q => h.1 (by rw [et]; exact List.mem_append_left _ q), fun q => h.2 (by rw [e.av]; exact q)⟩
theorem fzT_down (e : Ext m H m' H') {a : Ad} {ys : List V} (h : FzT K m' H' a ys) : FzT K m H' a ys := h.imp (fun h => ⟨h.1, out_down e h.2⟩) id
theorem fzS_down (e : Ext m H m' H') {a : Ad} {ys : List V} (h : FzS K m' H' a ys) : FzS K m H' a ys := h.imp (fun h => ⟨h.1, out_down e h.2⟩) id
theorem fzL_down (e : Ext m H m' H') {a : Ad} {ys : List V} (h : FzL m' H' a ys) : FzL m H' a ys := ⟨h.1, out_down e h.2⟩
theorem ix_down (e : Ext m H m' H') {k : Nat} {a : Ad} (hk : k < m.ix.length) (h : m'.ix[k]? = some a) : m.ix[k]? = some a := by
  obtain ⟨t, et, _⟩ := e.grow
  rw [et, List.getElem?_append_left hk] at h
  exact h
mutual
/-- what could be named before is named as before -/
theorem R.down (e : Ext m H m' H') : ∀ {x : VV} {v0 v : V}, R K m H x v0 → R K m' H' x v → R K m H' x v
  | _, _, _, .non, q => by cases q; exact .non
  | _, _, _, .bl b, q => by cases q; exact .bl b
  | _, _, _, .int i, q => by cases q; exact .int i
  | _, _, _, .str z, q => by cases q; exact .str z
  | _, _, _, .tup f r, q => by
    cases q with
    | tup f2 r2 => exact .tup (fzT_down e f2) (Rs.down e r r2)
  | _, _, _, .lst f r, q => by
    cases q with
    | lst f2 r2 => exact .lst (fzL_down e f2) (Rs.down e r r2)
  | _, _, _, .scr f r, q => by
    cases q with
    | scr f2 r2 => exact .scr (fzS_down e f2) (Rs.down e r r2)
  | _, _, _, .ref h, q => by
    cases q with
    | ref h2 => exact .ref (ix_down e (List.getElem?_eq_some_iff.mp h).1 h2)
  | _, _, _, .dct h hm d r, q => by
    cases q with
    | dct h2 hm2 d2 r2 => exact .dct h2 (out_down e hm2) d2 (Rp.down e r r2)
  | _, _, _, .exc g h hm h2 hm2 r, q => by
    cases q with
    | exc g2 k km k2 km2 r2 => exact .exc g2 k (out_down e km) k2 (out_down e km2) (R.down e r r2)
theorem Rs.down (e : Ext m H m' H') : ∀ {xs : List VV} {vs0 vs : List V}, Rs K m H xs vs0 → Rs K m' H' xs vs → Rs K m H' xs vs
  | _, _, _, .nil, q => by cases q; exact .nil
  | _, _, _, .cons r t, q => by
    cases q with
    | cons r2 t2 => exact .cons (R.down e r r2) (Rs.down e t t2)
theorem Rp.down (e : Ext m H m' H') : ∀ {xs : List (VV × VV)} {vs0 vs : List (DK × V)}, Rp K m H xs vs0 → Rp K m' H' xs vs → Rp K m H' xs vs
  | _, _, _, .nil, q => by cases q; exact .nil
  | _, _, _, .int r t, q => by
    cases q with
    | int r2 t2 => exact .int (R.down e r r2) (Rp.down e t t2)
  | _, _, _, .tup k f r t, q => by
    cases q with
    | tup k2 f2 r2 t2 => exact .tup k2 (fzT_down e f2) (R.down e r r2) (Rp.down e t t2)
end
mutual
theorem R.plain (e : Ext m H m' H') : ∀ {x : VV} {v : V}, R K m' H' x v → pur x = true → R K m H' x v
  | _, _, .non, _ => .non
  | _, _, .bl b, _ => .bl b
  | _, _, .int i, _ => .int i
  | _, _, .str z, _ => .str z
  | _, _, .tup (xs := xs) f r, h => .tup (fzT_down e f) (Rs.plain e r (by simpa [pur] using h))
  | _, _, .lst (xs := xs) f r, h => .lst (fzL_down e f) (Rs.plain e r (by simpa [pur] using h))
  | _, _, .scr (xs := xs) f r, h => .scr (fzS_down e f) (Rs.plain e r (by simpa [pur] using h))
  | _, _, .ref h, q => by cases q
  | _, _, .dct (t := t) (kvs := kvs) h hm d r, q => .dct h (out_down e hm) d (Rp.plain e r (by simpa [pur] using q))
  | _, _, .exc g h hm h2 hm2 r, q => .exc g h (out_down e hm) h2 (out_down e hm2) (R.plain e r (by simpa [pur] using q))
theorem Rs.plain (e : Ext m H m' H') : ∀ {xs : List VV} {vs : List V}, Rs K m' H' xs vs → purs xs = true → Rs K m H' xs vs
  | _, _, .nil, _ => .nil
  | _, _, .cons r t, h => by
    simp only [purs, Bool.and_eq_true] at h
    exact .cons (R.plain e r h.1) (Rs.plain e t h.2)
theorem Rp.plain (e : Ext m H m' H') : ∀ {xs : List (VV × VV)} {vs : List (DK × V)}, Rp K m' H' xs vs → purp xs = true → Rp K m H' xs vs
  | _, _, .nil, _ => .nil
  | _, _, .int r t, h => by
    simp only [purp, purq, Bool.and_eq_true] at h
    exact .int (R.plain e r h.1.2) (Rp.plain e t h.2)
  | _, _, .tup k f r t, h => by
    simp only [purp, purq, Bool.and_eq_true] at h
    exact .tup k (fzT_down e f) (R.plain e r h.1.2) (Rp.plain e t h.2)
end
theorem mapO_rp {f : VV → Option VV} (e : Ext m H m' H') (h : ∀ x v y, f x = some y → R K m' H' x v → R K m H' y v) : ∀ {xs ys : List (VV × VV)} {vs : List (DK × V)}, mapO (fun p : VV × VV => (f p.2).map fun v => (p.1, v)) xs = some ys → Rp K m' H' xs vs → Rp K m H' ys vs
  | [], ys, _, q, .nil => by cases q; exact .nil
  | _ :: xs, ys, _, q, .int r t => by
    unfold mapO at q
    split at q
    · rename_i y ys' e1 e2
      cases q
      obtain ⟨v, e3, rfl⟩ := Option.map_eq_some_iff.mp e1
      exact .int (h _ _ _ e3 r) (mapO_rp e h e2 t)
    · cases q
  | _ :: xs, ys, _, q, .tup k g r t => by
    unfold mapO at q
    split at q
    · rename_i y ys' e1 e2
      cases q
      obtain ⟨v, e3, rfl⟩ := Option.map_eq_some_iff.mp e1
      exact .tup k (fzT_down e g) (h _ _ _ e3 r) (mapO_rp e h e2 t)
    · cases q
theorem mapO_rel {f : VV → Option VV} (h : ∀ x v y, f x = some y → R K m' H' x v → R K m H' y v) : ∀ {xs ys : List VV} {vs : List V}, mapO f xs = some ys → Rs K m' H' xs vs → Rs K m H' ys vs
  | [], _, _, e, .nil => by cases e; exact .nil
  | x :: xs, ys, _, e, .cons r t => by
    unfold mapO at e
    split at e
    · rename_i y ys' e1 e2
      cases e
      exact .cons (h _ _ _ e1 r) (mapO_rel h e2 t)
    · cases e
theorem frz_ok (e : Ext m H m' H') (h1 : SimH K m' H' S1) : ∀ (n : Nat) (x y : VV) (v : V), frz n m.ix.length S1 x = some y → R K m' H' x v → R K m H' y v := by
  have plain : ∀ (x y : VV) (v : V), (if pur x then some x else none) = some y → R K m' H' x v → R K m H' y v := fun x y v q r => by
    split at q
    · rename_i hp
      cases q
      exact r.plain e hp
    · cases q
  intro n
  induction n with
  | zero => intro x y v q r; exact plain x y v (by cases x <;> exact q) r
  | succ n ih =>
    intro x y v q r
    cases x with
    | ref k =>
      have q : (if k < m.ix.length then some (VV.ref k) else match S1[k]? with
        | some (.lst xs) => (mapO (frz n m.ix.length S1) xs).map .lst
        | some (.dct t kvs) => (mapO (fun p => (frz n m.ix.length S1 p.2).map fun v => (p.1, v)) kvs).map (.dct t)
        | _ => none) = some y := q
      split at q
      · rename_i hk
        cases q
        cases r with
        | ref h2 => exact .ref (ix_down e hk h2)
      · rename_i hk
        have out : ∀ a, m'.ix[k]? = some a → m.out a := fun a h2 => ⟨fun q => by
          obtain ⟨t, et, _⟩ := e.grow
          obtain ⟨j, hj⟩ := List.mem_iff_getElem?.mp q
          have hjl := (List.getElem?_eq_some_iff.mp hj).1
          have hj2 : m'.ix[j]? = some a := by rw [et, List.getElem?_append_left hjl]; exact hj
          obtain ⟨l1, e1⟩ := List.getElem?_eq_some_iff.mp hj2
          obtain ⟨l2, e2⟩ := List.getElem?_eq_some_iff.mp h2
          have : j = k := (List.getElem_inj h1.nd).mp (e1.trans e2.symm)
          omega, fun q => (h1.apart a (by rw [e.av]; exact q)).1 (List.mem_of_getElem? h2)⟩
        split at q
        · rename_i xs es
          obtain ⟨ys, e1, rfl⟩ := Option.map_eq_some_iff.mp q
          cases r with
          | ref h2 =>
            rename_i a
            obtain ⟨us, h3, h4⟩ := h1.obj k _ a es h2
            exact .lst ⟨h3, out a h2⟩ (mapO_rel (fun x v y => ih x y v) e1 h4)
        · rename_i t kvs es
          obtain ⟨ys, e1, rfl⟩ := Option.map_eq_some_iff.mp q
          cases r with
          | ref h2 =>
            rename_i a
            obtain ⟨us, o, h3, h5, h4⟩ := h1.obj k _ a es h2
            exact .dct h3 (out a h2) h5 (mapO_rp e (fun x v y => ih x y v) e1 h4)
        · cases q
    | dct t kvs =>
      have q : (mapO (fun p : VV × VV => (frz n m.ix.length S1 p.2).map fun v => (p.1, v)) kvs).map (VV.dct t) = some y := q
      obtain ⟨ys, e1, rfl⟩ := Option.map_eq_some_iff.mp q
      cases r with
      | dct h2 hm d r => exact .dct h2 (out_down e hm) d (mapO_rp e (fun x v y => ih x y v) e1 r)
    | tup xs =>
      have q : (mapO (frz n m.ix.length S1) xs).map VV.tup = some y := q
      obtain ⟨ys, e1, rfl⟩ := Option.map_eq_some_iff.mp q
      cases r with
      | tup f t => exact .tup (fzT_down e f) (mapO_rel (fun x v y => ih x y v) e1 t)
    | lst xs =>
      have q : (mapO (frz n m.ix.length S1) xs).map VV.lst = some y := q
      obtain ⟨ys, e1, rfl⟩ := Option.map_eq_some_iff.mp q
      cases r with
      | lst f t => exact .lst (fzL_down e f) (mapO_rel (fun x v y => ih x y v) e1 t)
    | _ => exact plain _ y v q r
theorem take_ok (e : Ext m H m' H') (h0 : SimH K m H S) (h1 : SimH K m' H' S1) (st : Stays S S1) : SimH K m H' (S1.take S.length) ∧ Ext m H m H' := by
  obtain ⟨t, et, _⟩ := e.grow
  refine ⟨⟨?_, h0.nd, fun k o a hk ha => ?_, fun a ha => ⟨(h0.apart a ha).1, e.live a (h0.apart a ha).2⟩⟩, ⟨e.keep, e.live, rfl, e.frz, [], by simp, by simp⟩⟩
  · rw [List.length_take, h0.len, Nat.min_eq_left st.1]
  · have hlt : k < S.length := by rw [← h0.len]; exact (List.getElem?_eq_some_iff.mp ha).1
    rw [List.getElem?_take_of_lt hlt] at hk
    have ha' : m'.ix[k]? = some a := by rw [et, List.getElem?_append_left (by rw [h0.len]; exact hlt)]; exact ha
    have q1 := h1.obj k o a hk ha'
    rcases st.2 k hlt with s | ⟨xs, s, hp⟩
    · have q0 := h0.obj k o a (by rw [← s]; exact hk) ha
      cases o with
      | lst xs =>
        obtain ⟨ys, h3, h4⟩ := q1
        obtain ⟨ys0, _, h5⟩ := q0
        exact ⟨ys, h3, Rs.down e h5 h4⟩
      | dct _ _ =>
        obtain ⟨ys, o, h3, h6, h4⟩ := q1
        obtain ⟨ys0, _, _, _, h5⟩ := q0
        exact ⟨ys, o, h3, h6, Rp.down e h5 h4⟩
      | obj _ _ =>
        obtain ⟨dx, gs, h3, h6, h7, h4⟩ := q1
        obtain ⟨dx0, gs0, _, _, _, h5⟩ := q0
        exact ⟨dx, gs, h3, h6, h7, Rs.down e h5 h4⟩
      | lck _ _ =>
        obtain ⟨od, ys, o, h3, h6, h4⟩ := q1
        obtain ⟨_, _, _, _, _, h5⟩ := q0
        exact ⟨od, ys, o, h3, h6, Rp.down e h5 h4⟩
    · rw [s] at hk
      cases hk
      obtain ⟨ys, h3, h4⟩ := q1
      exact ⟨ys, h3, h4.plain e hp⟩
theorem fin_ok {keep : Bool} {x y : VV} {v : V} (q : fin keep S x S1 = .ok y S') (e : Ext m H m' H') (h0 : SimH K m H S) (h1 : SimH K m' H' S1) (r : R K m' H' x v) : ∃ m2, Ext m H m2 H' ∧ SimH K m2 H' S' ∧ R K m2 H' y v := by
  unfold fin at q
  split at q
  · cases q
    exact ⟨m', e, h1, r⟩
  · split at q
    · rename_i st
      obtain ⟨t1, t2⟩ := take_ok e h0 h1 st
      split at q
      · rename_i hp
        cases q
        exact ⟨m, t2, t1, r.plain e hp⟩
      · split at q
        · rename_i y' hf
          cases q
          rw [← h0.len] at hf
          exact ⟨m, t2, t1, frz_ok e h1 6 x _ v hf r⟩
        · cases q
    · cases q
theorem SimH.out_xd {d : Ad} {fs : List (Str × V)} (h : SimH K m' H' S1) (e : H' d = some (.xd fs)) (hv : d ∉ m'.av) : m'.out d := by
  refine ⟨fun q => ?_, hv⟩
  obtain ⟨k, hk⟩ := List.mem_iff_getElem?.mp q
  have hl : k < S1.length := by rw [← h.len]; exact (List.getElem?_eq_some_iff.mp hk).1
  have z := h.obj k _ d (List.getElem?_eq_getElem hl) hk
  cases ob : S1[k] with
  | lst xs =>
    rw [ob] at z
    obtain ⟨ys, h1, _⟩ := z
    rw [e] at h1
    cases h1
  | dct t kvs =>
    rw [ob] at z
    obtain ⟨ys, o, h1, hd, _⟩ := z
    rw [e] at h1
    cases h1
    rcases hd with ⟨_, ps, _, hd⟩ | ⟨_, ps, _, hd⟩
    · cases hd
    · unfold dicO at hd
      cases hd
  | obj c fs =>
    rw [ob] at z
    obtain ⟨dx, gs, h1, _⟩ := z
    rw [e] at h1
    cases h1
  | lck t kvs =>
    rw [ob] at z
    obtain ⟨od, ys, o, h1, _⟩ := z
    rw [e] at h1
    cases h1
end
end Tw
set_option Elab.async false
set_option linter.all false
set_option autoImplicit false
set_option maxRecDepth 100000
namespace Tw
open PySem PySem.Spec PyProof.Rows L2
structure Df where
  d : He.DefD
  sg : Sg
  N : List Str
  muts : List (Str × Nat)
  ret : Nat
def Df.cn (sgs : List Sg) (xs : List String) (cs : List (Str × Lit)) (f : Df) : Cn := ⟨f.N, f.d.scope, fun _ => true, sgs, f.muts, f.ret, xs, true, cs⟩
structure Xd where
  c : String
  d : He.DefD
def Xd.good (x : Xd) : Bool := decide (x.d.at_ = (Str.ofString x.c, some ("__init__" : Str))) && x.d.dfl.isEmpty && x.d.kwd.isEmpty && iniP x.c x.d.params && iniS x.c x.d.scope && iniT x.c x.d.body && decide (Str.ofString (xB x.c).B ∈ biNm)
def xdB (K : PySem.W.Frag) (c : String) : Bool := xcB K c && decide (PySem.W.nsIn K mainGlobals (Str.ofString c) = some (some (.ref (xA K c)))) &&
  decide (PySem.W.findIn K (.ref (xA K c)) "__init__" = some (some (.ref (He.ma K (xA K c) "__init__")))) && decide (PySem.W.typeIn K (.ref (He.ma K (xA K c) "__init__")) = some (.type "function"))
def nodupB : List Str → Bool
  | [] => true
  | x :: xs => !xs.contains x && nodupB xs
theorem nodupB_ok : ∀ {l : List Str}, nodupB l = true → l.Nodup
  | [], _ => List.nodup_nil
  | x :: xs, h => by
    simp only [nodupB, Bool.and_eq_true, Bool.not_eq_true'] at h
    refine List.nodup_cons.mpr ⟨fun q => ?_, nodupB_ok h.2⟩
    have := h.1
    rw [List.contains_iff_mem.mpr q] at this
    cases this
def scB (N ps : List Str) (sc : Scope) : Bool :=
  (match sc.kind with
    | .function => true
    | _ => false) && !sc.isCoroutine && !sc.isGenerator && nodupB N && decide (N.take ps.length = ps) &&
  (ps.all fun x => match sc.names.lookup x with
    | some .local => true
    | some .cell => true
    | _ => false) && sc.names.all fun y => match y.2 with
    | .free => false
    | _ => true
theorem scB_ok {N ps : List Str} {sc : Scope} (h : scB N ps sc = true) : FnScope N ps sc := by
  unfold scB at h
  simp only [Bool.and_eq_true, Bool.not_eq_true', decide_eq_true_eq] at h
  obtain ⟨⟨⟨⟨⟨⟨h1, h2⟩, h3⟩, h4⟩, h5⟩, h6⟩, h7⟩ := h
  refine ⟨?_, h2, h3, nodupB_ok h4, h5, fun x hx => ?_, fun y hy e => ?_⟩
  · split at h1
    · assumption
    · cases h1
  · have q := List.all_eq_true.mp h6 x hx
    split at q
    · exact .inl (by assumption)
    · exact .inr (by assumption)
    · cases q
  · have q := List.all_eq_true.mp h7 y hy
    rw [e] at q
    cases q
def Df.at_ (f : Df) : Str × Option Str := match f.sg.cls with
  | none => (f.sg.nm, none)
  | some c => (Str.ofString c, some f.sg.nm)
def kcB (K : PySem.W.Frag) (c : String) : Bool := PySem.W.plainGet K (kA K c) Str.empty && PySem.W.hasDictIn K (kA K c) && PySem.W.plainOver K (kA K c) && decide (PySem.W.findIn K (.ref (kA K c)) "__setattr__" = some (some (.builtin "object.__setattr__"))) &&
  ((cFlds c).all fun f => decide (PySem.W.findIn K (.ref (kA K c)) f = some none)) && PySem.W.makesIn K (kA K c) && PySem.W.keepIn K (.ref (kA K c)) && decide (PySem.W.nsIn K mainGlobals (Str.ofString c) = some (some (.ref (kA K c))))
def mtB (K : PySem.W.Frag) (m : String × Str) : Bool := kcB K m.1 && decide (PySem.W.findIn K (.ref (kA K m.1)) m.2 = some (some (.ref (He.fAd K (Str.ofString m.1, some m.2))))) && PySem.W.isFn K (.ref (He.fAd K (Str.ofString m.1, some m.2))) && PySem.W.keepIn K (.ref (He.fAd K (Str.ofString m.1, some m.2)))
theorem kcB_ok {K : PySem.W.Frag} {c : String} (h : kcB K c = true) : KcG K c ∧ PySem.W.makesIn K (kA K c) = true ∧ PySem.W.keepIn K (.ref (kA K c)) = true ∧ PySem.W.nsIn K mainGlobals (Str.ofString c) = some (some (.ref (kA K c))) := by
  unfold kcB at h
  simp only [Bool.and_eq_true, decide_eq_true_eq] at h
  obtain ⟨⟨⟨⟨⟨⟨⟨h1, h2⟩, h3⟩, h4⟩, h5⟩, h6⟩, h7⟩, h8⟩ := h
  refine ⟨⟨⟨h1, h2, h3, h4⟩, fun f hf => ?_⟩, h6, h7, h8⟩
  have q := List.all_eq_true.mp h5 f hf
  show PySem.W.findIn K (.ref (kA K c)) f = some none
  exact of_decide_eq_true q
def Df.good (f : Df) : Bool := decide (f.d.at_ = f.at_) && f.d.dfl.isEmpty && f.d.kwd.isEmpty && f.d.params.posonlyargs.isEmpty && f.d.params.vararg.isNone && f.d.params.kwonlyargs.isEmpty && f.d.params.kwarg.isNone &&
  decide (f.d.params.args.map (·.arg) = f.sg.ps) && scB f.N f.sg.ps f.d.scope
section
variable {P : Program} {w : World} {K : PySem.W.Frag} {mg : Str → Option Value} {base : Heap} {fs : List Df} {Pm : Pg}
theorem fdOk_of {f : Df} (hg : f.good = true) {fd : FuncData} (F : FunD K f.d.name f.d.qual f.d.params f.d.body f.d.scope (f.d.dvs K) (f.d.kws K) (He.fAd K f.d.at_) fd) : FdOk fd f.sg.ps := by
  unfold Df.good at hg
  simp only [Bool.and_eq_true, decide_eq_true_eq, List.isEmpty_iff, Option.isNone_iff_eq_none] at hg
  obtain ⟨⟨⟨⟨⟨⟨⟨⟨h1, h2⟩, h3⟩, h4⟩, h5⟩, h6⟩, h7⟩, h8⟩, h9⟩ := hg
  obtain ⟨oc, od, dV, kV, doc, pm, an, cdv, ct, osl, rfl, lk, hcd, hD, hK⟩ := F.ex
  obtain ⟨d, sg, N, muts, ret⟩ := f
  obtain ⟨at_, name, qual, params, body, scope, dfl, kwd⟩ := d
  obtain ⟨po, as, va, ko, kd, ka, df⟩ := params
  dsimp only at h1 h2 h3 h4 h5 h6 h7 h8 h9
  subst h2 h4 h5 h6 h7
  have hdv : dV = .none := by
    rcases hD with ⟨_, q⟩ | ⟨q, _⟩
    · exact q
    · exact absurd rfl q
  subst hdv
  exact ⟨_, _, as, kd, df, _, _, kV, doc, pm, an, cdv, ct, rfl, h8⟩
theorem fdOk_x {x : Xd} (hg : x.good = true) {fd : FuncData} (F : FunD K x.d.name x.d.qual x.d.params x.d.body x.d.scope (x.d.dvs K) (x.d.kws K) (He.fAd K x.d.at_) fd) : FdOk fd ["self", xF x.c] := by
  unfold Xd.good iniP at hg
  simp only [Bool.and_eq_true, decide_eq_true_eq, List.isEmpty_iff, Option.isNone_iff_eq_none] at hg
  obtain ⟨⟨⟨⟨⟨⟨h1, h2⟩, h3⟩, h4, h5, h6, h7, h8, h9⟩, _⟩, _⟩, _⟩ := hg
  obtain ⟨oc, od, dV, kV, doc, pm, an, cdv, ct, osl, rfl, lk, hcd, hD, hK⟩ := F.ex
  obtain ⟨c, at_, name, qual, params, body, scope, dfl, kwd⟩ := x
  obtain ⟨po, as, va, ko, kd, ka, df⟩ := params
  dsimp only at h1 h2 h3 h4 h5 h6 h7 h8 h9
  subst h2 h4 h5 h6 h7
  have hdv : dV = .none := by
    rcases hD with ⟨_, q⟩ | ⟨q, _⟩
    · exact q
    · exact absurd rfl q
  subst hdv
  exact ⟨_, _, as, kd, df, _, _, kV, doc, pm, an, cdv, ct, rfl, h9⟩
structure Defs (P : Program) (w : World) (K : PySem.W.Frag) (mg : Str → Option Value) (fs : List Df) (xs : List Xd) (cs : List (Str × Lit)) (Pm : Pg) : Prop where
  good : ∀ f ∈ fs, f.good = true
  body : ∀ f ∈ fs, ∃ b, cSs 300 (f.cn (fs.map (·.sg)) (xs.map (·.c)) cs) f.d.body = some b ∧ Pm f.sg.id = some ⟨f.sg.ps.length, f.N.length, b⟩
  obj : ∀ f ∈ fs, ∃ fd, FunD K f.d.name f.d.qual f.d.params f.d.body f.d.scope (f.d.dvs K) (f.d.kws K) (He.fAd K f.d.at_) fd
  glo : ∀ f ∈ fs, f.sg.cls = none → mg f.sg.nm = some (.ref (He.fAd K f.d.at_))
  meth : ∀ f ∈ fs, ∀ c, f.sg.cls = some c → mtB K (c, f.sg.nm) = true ∧ mg (Str.ofString c) = some (.ref (kA K c))
  free : ∀ x ∈ biNm, mg x = none
  xgood : ∀ x ∈ xs, x.good = true
  xobj : ∀ x ∈ xs, ∃ fd, FunD K x.d.name x.d.qual x.d.params x.d.body x.d.scope (x.d.dvs K) (x.d.kws K) (He.fAd K x.d.at_) fd
  xglo : ∀ x ∈ xs, mg (Str.ofString x.c) = some (.ref (xA K x.c))
  xok : ∀ x ∈ xs, xdB K x.c = true
  cst : ∀ c ∈ cs, ∃ u, mg c.1 = some u ∧ litRel c.2 u = true
theorem hg_at {x : Xd} (h : x.good = true) : x.d.at_ = (Str.ofString x.c, some ("__init__" : Str)) := by
  unfold Xd.good at h
  simp only [Bool.and_eq_true, decide_eq_true_eq] at h
  exact h.1.1.1.1.1.1
theorem mk_of_defs {xs : List Xd} {cs : List (Str × Lit)} (st : Defs P w K mg fs xs cs Pm) {X : Cx} (hP : X.prog = P) (hw : X.w = w) (hK : X.K = K) (hm : X.mg = mg) (hr : Room 2 X.A) : ∀ c ∈ xs.map (·.c), MkOk X c := by
  subst hP hw hK hm
  intro c hc
  obtain ⟨x, hx, rfl⟩ := List.mem_map.mp hc
  have ok := st.xok x hx
  unfold xdB at ok
  simp only [Bool.and_eq_true, decide_eq_true_eq] at ok
  obtain ⟨⟨⟨o1, o2⟩, o3⟩, o4⟩ := ok
  have G := xcB_ok o1
  obtain ⟨fd, F⟩ := st.xobj x hx
  have hg := st.xgood x hx
  have FD := fdOk_x hg F
  unfold Xd.good at hg
  simp only [Bool.and_eq_true, decide_eq_true_eq] at hg
  obtain ⟨⟨⟨_, h4⟩, h5⟩, h6⟩ := hg
  have ha := hg_at (x := x) (st.xgood x hx)
  have eA : He.fAd X.K x.d.at_ = He.ma X.K (xA X.K x.c) "__init__" := by rw [ha]; rfl
  rw [eA] at F
  refine ⟨G, st.xglo x hx, _, fd, 1, o3, o4, ini_fn (k := 0) G F h4 h5 (st.free _ h6), hr, fun s us _ hl => ?_, fun s u v => ?_⟩
  rotate_left
  · have e := binds_kw (s := s) (us := [u]) (ws := [v]) (ks := [xF x.c]) (perm := [0, 1]) FD (by
      unfold permOf
      have ne : ("self" : Str) ≠ xF x.c := by
        unfold iniS at h4
        simp only [Bool.and_eq_true, decide_eq_true_eq] at h4
        exact h4.2.2.2.2.1
      have ne2 : xF x.c ≠ ("self" : Str) := Ne.symm ne
      rw [if_pos (by simp [ne, ne2])]
      have b1 : (("self" : Str) == xF x.c) = false := beq_eq_false_iff_ne.mpr ne
      simp [List.idxOf, List.findIdx, List.findIdx.go, b1]) rfl
    exact e
  rw [List.append_nil] at hl ⊢
  have hl2 : us.length = 2 := hl
  have e := binds_kw (s := s) (us := us) (ws := []) (ks := []) (perm := [0, 1]) FD (by
    unfold permOf
    rw [hl2]
    have ne : ("self" : Str) ≠ xF x.c := by
      unfold iniS at h4
      simp only [Bool.and_eq_true, decide_eq_true_eq] at h4
      exact h4.2.2.2.2.1
    have ne2 : xF x.c ≠ ("self" : Str) := Ne.symm ne
    rw [if_pos (by simp [ne, ne2])]
    have b1 : (("self" : Str) == xF x.c) = false := beq_eq_false_iff_ne.mpr ne
    simp [List.idxOf, List.findIdx, List.findIdx.go, b1]) rfl
  rw [List.append_nil] at e
  rw [show pick [0, 1] us = us from by
    match us, hl2 with
    | [a, b], _ => rfl] at e
  exact e
theorem sp_len {cl : Cl} {id : String} {ar : Nat} (vs : List V) (H : Hp) (Q : VK) (E : XK) (h : spIR K (rxT K) cl id ar vs H Q E) : vs.length = ar := by
  obtain ⟨keep, m, S, xs, h1, h2, h3, h4⟩ := h
  rw [← h3.length, h1]
theorem start_sim {m : Mp} {H : Hp} {xs : List VV} {vs : List V} (N : List Str) (r : Rs K m H xs vs) : SimE K m H (xs.map some ++ List.replicate (N.length - xs.length) none) (L2.start N vs) := by
  refine ⟨by simp [L2.start, r.length], fun i x h => ?_⟩
  unfold L2.start
  by_cases hi : i < xs.length
  · rw [List.getElem?_append_left (by simpa using hi), List.getElem?_map] at h
    obtain ⟨y, hy, e⟩ := Option.map_eq_some_iff.mp h
    cases e
    obtain ⟨v, hv, rv⟩ := r.get hy
    refine ⟨v, ?_, rv⟩
    rw [List.getElem?_append_left (by rw [List.length_map, ← r.length]; exact hi), List.getElem?_map, hv]
    rfl
  · rw [List.getElem?_append_right (by simpa using hi)] at h
    have := List.mem_of_getElem? h
    rw [List.mem_replicate] at this
    cases this.2
theorem all_fn {xs : List Xd} {cs : List (Str × Lit)} (st : Defs P w K mg fs xs cs Pm) : ∀ (k : Nat) (f : Df), f ∈ fs → ∀ fd, FunD K f.d.name f.d.qual f.d.params f.d.body f.d.scope (f.d.dvs K) (f.d.kws K) (He.fAd K f.d.at_) fd → FnG P w K mg base (L2.CX P w) (2 * k + 2) (He.fAd K f.d.at_) fd f.sg.ps (spIR K (rxT K) (callF Pm k) f.sg.id f.sg.ps.length) := by
  intro k
  induction k with
  | zero =>
    intro f hf fd F
    refine ⟨sp_len, fun A outer s H args us vs Q E hr hg e0 hb r h => ?_⟩
    obtain ⟨keep, m, S, xs, h1, h2, h3, h4⟩ := h
    exact h4.elim
  | succ k ih =>
    intro f hf fd F
    obtain ⟨b, hb, hP⟩ := st.body f hf
    have hgood := st.good f hf
    have S : FnScope f.N f.sg.ps f.d.scope := by
      unfold Df.good at hgood
      simp only [Bool.and_eq_true] at hgood
      exact scB_ok hgood.2
    obtain ⟨oc, od, dV, kV, doc, pm, an, cdv, ct, osl, rfl, lk, hcd, hD, hK⟩ := F.ex
    refine fnG_of lk hcd S sp_len fun A outer s H vs Q E hr hg hsp => ⟨rdS K ⟨fun c d _ H' => E c d H', (rxT K)⟩ (exs (callF Pm k) b), ?_, ?_⟩
    · refine cSs_ok 300 (f.cn (fs.map (·.sg)) (xs.map (·.c)) cs) (cxOf (L2.CX P w) P w K mg base f.N f.d.qual f.d.scope (He.fAd K f.d.at_) cdv A outer s H E) _ (callF Pm k) f.d.body b ⟨rfl, S.nd, rfl, S.kind, fun _ _ => rfl, ⟨rfl, hg, ?_⟩, ?_, fun g hgm => ?_, st.free, fun _ => ⟨rfl, rfl, rfl, rfl, ?_⟩, st.cst⟩ ?_ hb
      · have := hr.un
        show (A.deeper (envOfC f.d.qual f.d.scope s.heap.objs.size (He.fAd K f.d.at_) cdv)).units + 100 < cLine
        omega
      · exact takes_of rfl rfl rfl rfl
      · obtain ⟨f2, hf2, rfl⟩ := List.mem_map.mp hgm
        obtain ⟨fd2, F2⟩ := st.obj f2 hf2
        have hr2 : Room (2 * k + 2 + 1) (A.deeper (envOfC f.d.qual f.d.scope s.heap.objs.size (He.fAd K f.d.at_) cdv)) := hr
        have at2 : f2.d.at_ = f2.at_ := by
          have := st.good f2 hf2
          unfold Df.good at this
          simp only [Bool.and_eq_true, decide_eq_true_eq] at this
          exact this.1.1.1.1.1.1.1.1
        unfold SgOk
        split
        · rename_i hc
          exact ⟨⟨2 * k + 2, _, fd2, ih f2 hf2 fd2 F2, fdOk_of (st.good f2 hf2) F2, hr2.mono (by omega), st.glo f2 hf2 hc, F2.kp⟩⟩
        · rename_i c hc
          obtain ⟨mb, mgc⟩ := st.meth f2 hf2 c hc
          unfold mtB at mb
          simp only [Bool.and_eq_true, decide_eq_true_eq] at mb
          obtain ⟨⟨⟨b1, b2⟩, b3⟩, b4⟩ := mb
          obtain ⟨g1, g2, g3, g4⟩ := kcB_ok b1
          have ea : He.fAd K f2.d.at_ = He.fAd K (Str.ofString c, some f2.sg.nm) := by
            rw [at2]
            unfold Df.at_
            rw [hc]
          rw [← ea] at b2 b3 b4
          split
          · rename_i hn
            rw [hn] at b2
            exact ⟨⟨2 * k + 2, _, fd2, ih f2 hf2 fd2 F2, fdOk_of (st.good f2 hf2) F2, hr2, g1, ⟨g2, b2, b3, g3⟩, mgc⟩⟩
          · exact ⟨⟨2 * k + 2, _, fd2, ih f2 hf2 fd2 F2, fdOk_of (st.good f2 hf2) F2, hr2.mono (by omega), g1.cls, ⟨b2, b3, b4⟩⟩⟩
      · exact mk_of_defs st rfl rfl rfl rfl (hr.mono (by omega))
      · exact passes_of (X := cxOf (L2.CX P w) P w K mg base f.N f.d.qual f.d.scope (He.fAd K f.d.at_) cdv A outer s H E) rfl
    · obtain ⟨keep, m, S0, xs, h1, h2, h3, h4⟩ := hsp
      have e := callF_run (n := k) (keep := keep) (s := S0) hP h1
      rw [← h1] at e
      rw [e] at h4
      cases er : exs (callF Pm k) b (xs.map some ++ List.replicate (f.N.length - xs.length) none) S0 with
      | bad => rw [er] at h4; exact h4.elim
      | exc v s => exact absurd er (exs_noX _ _ _ _ _)
      | ok r S1 =>
        rw [er] at h4
        refine ⟨m, _, S0, r, S1, ⟨h2, start_sim f.N h3⟩, er, ?_⟩
        have fine : ∀ {y : VV}, Res K ⟨fun c d _ H' => E c d H', (rxT K)⟩ m H [] (fin keep S0 y S1) (fun x S' => Post K m H x S' Q) → ∀ m' H' u, Ext m H m' H' → SimH K m' H' S1 → R K m' H' y u → Q u H' := fun {y} q m' H' u x1 s1 r1 => by
          cases ef : fin keep S0 y S1 with
          | bad => rw [ef] at q; exact q.elim
          | exc z s =>
            unfold fin at ef
            repeat' split at ef
            all_goals cases ef
          | ok z S2 =>
            rw [ef] at q
            obtain ⟨m2, x2, s2, r2⟩ := fin_ok ef x1 h2 s1 r1
            exact q m2 H' u x2 s2 r2
        cases r with
        | nx σ => exact fun m' H' σ' x1 s1 => fine h4 m' H' .non x1 s1.h .non
        | rt v => exact fun m' H' u x1 s1 r1 => fine h4 m' H' u x1 s1 r1
        | bk σ => exact h4.elim
        | ct σ => exact h4.elim
        | xc v σ =>
          intro m' H' σ' c d x1 s1 z
          obtain ⟨c, x, dd, y, rfl, G, rfl, rfl, hd, hm, rxy⟩ := z
          have h4 : Res K ⟨fun c d _ H' => E c d H', (rxT K)⟩ m H [] ((fin keep S0 x S1).bind fun v s => .exc (.exc c v) s) _ := h4
          cases ef : fin keep S0 x S1 with
          | bad => rw [ef] at h4; exact h4.elim
          | exc z s =>
            unfold fin at ef
            repeat' split at ef
            all_goals cases ef
          | ok z S2 =>
            rw [ef] at h4
            obtain ⟨m2, x2, s2, r2⟩ := fin_ok ef x1 h2 s1.h rxy
            exact h4 m2 H' _ _ x2 s2 ⟨c, z, dd, y, rfl, G, rfl, rfl, hd, s2.out_xd hd (by rw [x2.av, ← x1.av]; exact hm.2), r2⟩
end
theorem call_true {P : Program} {w : World} {K : PySem.W.Frag} {mg mb : Str → Option Value} {k : Nat} {fa a : Addr} {fd : FuncData} {x : Str} {sp : Sp} {st : Shared} {its : List Value} {zs : List Int}
    (kin : K.In st.heap) (gns : st.heap.Ns mainGlobals mg) (bns : st.heap.Ns builtinsNs mb) (bbt : ∀ x : Str, x ≠ "__name__" → mb x = bootBuiltins x) (nol : st.heap.NoLimit) (gen : st.gens = #[])
    (obj : st.heap.get? a = some { cls := .type "list", data := .seq its.toArray }) (ia : IntsAre its zs) (len : zs.length ≤ sizeLine) (room : Room k callerA)
    (F : ∀ base : Heap, K.In base → base.Ns mainGlobals mg → FnG P w K mg base (L2.CX P w) k fa fd [x] sp) (bind : ∀ (s : Shared) (u : Value), BindsTo s fd ⟨[u], []⟩ [(x, u)])
    (hsp : ∀ H : Hp, SqL K H a (zs.map V.int) → sp [.ref a] H (fun v _ => v = .bl true) fun _ _ _ => False) :
    codeAny (model P w) callerA (.call (.ref fa) ⟨[.ref a], []⟩) (fun r s' => r = .ok (.ret (.bool true)) ∧ OldK st.heap s'.heap ∧ s'.os = st.os ∧ AllBare s'.gens) st := by
  have vz := vals_ints ia
  have lz := ia.length
  -- H tracks at most the script
  have run : ∀ H : Hp, Only H → SqL K H a (zs.map V.int) → HOk P w H st.heap → (∀ c, H c ≠ none → c = a) → (H a ≠ none → K.lookup a = none) →
      codeAny (model P w) callerA (.call (.ref fa) ⟨[.ref a], []⟩) (fun r s' => r = .ok (.ret (.bool true)) ∧ OldK st.heap s'.heap ∧ s'.os = st.os ∧ AllBare s'.gens) st := by
    intro H only sq hok at_a ka
    have none_of : ∀ {c : Addr} {u : Obj}, st.heap.get? c = some u → (c = a → u.data ≠ .seq its.toArray 0) → H c = none := fun {c u} e ne => by
      cases q : H c with
      | none => rfl
      | some z =>
        have ca : c = a := at_a c (by rw [q]; simp)
        rw [ca, obj] at e
        cases e
        exact absurd rfl (ne ca)
    have ns_of : ∀ {c : Addr} {m : Str → Option Value}, st.heap.Ns c m → (hidT st.heap H).Ns c m := fun {c m} ⟨u, es, ep, e, d, r⟩ =>
      ⟨u, es, ep, hidT_get e (none_of e fun _ z => by rw [d] at z; cases z), d, r⟩
    have kinB : K.In (hidT st.heap H) := fun c u e => hidT_get (kin c u e) (by
      cases q : H c with
      | none => rfl
      | some z =>
        have ca : c = a := at_a c (by rw [q]; simp)
        subst ca
        rw [ka (by rw [q]; simp)] at e
        cases e)
    obtain ⟨mc, n1, n2⟩ := nol
    have md : Mod K mg (hidT st.heap H) := ⟨kinB, ns_of gns, ⟨mb, ns_of bns, bbt⟩, mc, ns_of n1, n2⟩
    have env : Env0 P w K mg (hidT st.heap H) callerA [] st H :=
      ⟨rfl, md, fun c u e => of_hidT e, Nat.le_of_eq (hidT_size _ _), trivial, fun c hc => (List.not_mem_nil hc).elim, hok, .of_eq gen⟩
    have go := (F _ kinB (ns_of gns)).run callerA [] st H ⟨[.ref a], []⟩ [.ref a] [.ref a] _ _ room rfl env (bind st (.ref a)) (.cons rfl .nil) (hsp H sq)
    refine codeAny_mono go ?_
    intro r s' h
    match r, h with
    | .error e, h =>
      obtain ⟨_, _, _, _, _, _, _, _, _, _, _, _, z⟩ := (show L2.CX P w [] H st (fun _ _ _ => False) e s' from h)
      exact z.elim
    | .ok .next, h => exact False.elim h
    | .ok .brk, h => exact False.elim h
    | .ok .cont, h => exact False.elim h
    | .ok (.ret u), h =>
      obtain ⟨v, H2, h1, h2, un, hok2, rv, qv⟩ := h
      have qv : v = .bl true := qv
      rw [qv] at rv
      obtain rfl : u = Value.bool true := rv
      refine ⟨rfl, OldK.of_keep fun c u e => ?_, h1, h2⟩
      rcases only c with z | ⟨ob, xs, z⟩
      · exact un.keep c u e z (fun y => (List.not_mem_nil (show c ∈ ([] : List Addr) from y)).elim) (by simp)
      · obtain ⟨e1, _⟩ := hok c _ z
        obtain ⟨e2, _⟩ := hok2 c _ (un.frzs c ob _ z)
        rw [e] at e1
        cases e1
        exact e2
  cases hk : K.lookup a with
  | some u =>
    have e := kin a u hk
    rw [obj] at e
    cases e
    exact run (fun _ => none) (fun _ => .inl rfl) (.inr ⟨_, its.toArray, _, hk, rfl, rfl, rfl, by rw [List.size_toArray, lz]; exact len, by simpa using vz⟩) (fun c u z => by
      have z : (none : Option HO) = some u := z
      cases z) (fun c z => absurd rfl z) fun z => absurd rfl z
  | none =>
    obtain ⟨H, hH⟩ : ∃ H : Hp, H = fun c => if c = a then some (.frz { cls := .type "list", data := .seq its.toArray } (.lst (zs.map V.int))) else none := ⟨_, rfl⟩
    have at_a : H a = some (.frz { cls := .type "list", data := .seq its.toArray } (.lst (zs.map V.int))) := by rw [hH]; exact if_pos rfl
    have off : ∀ c, c ≠ a → H c = none := fun c hc => by rw [hH]; exact if_neg hc
    refine run H (fun c => ?_) (.inl (.inr ⟨_, at_a⟩)) (fun c u z => ?_) (fun c z => Classical.byContradiction fun hc => z (off c hc)) fun _ => hk
    · by_cases hc : c = a
      · rw [hc, at_a]
        exact .inr ⟨_, _, rfl⟩
      · exact .inl (off c hc)
    · by_cases hc : c = a
      · subst hc
        rw [at_a] at z
        cases z
        exact ⟨obj, by rw [List.length_map]; exact len, its, _, vz, obj⟩
      · rw [off c hc] at z
        cases z
theorem law_walk {l : PySem.W.OpenLaw} {n k : Nat} {q : Program} {loose : List Str} {XP : (Str → Option Value) → Heap → Prop} {YP : World → Heap → Prop} {d : DefRec} {x : Str} {Pm : Pg} {id : String}
    (hn : l.most = some n) (hn2 : n ≤ sizeLine) (hdf : d.params.defaults = []) (hr : Room (2 * k + 2) callerA)
    (F : ∀ (w : World) (mg : Str → Option Value) (fa : Addr) (h : Heap), YP w h → h.Ns mainGlobals mg → mg d.name = some (.ref fa) →
      ∃ (K : PySem.W.Frag) (fd : FuncData), K.In h ∧ (∀ (s : Shared) (u : Value), BindsTo s fd ⟨[u], []⟩ [(x, u)]) ∧
        ∀ base : Heap, K.In base → base.Ns mainGlobals mg → FnG l.prog w K mg base (L2.CX l.prog w) (2 * k + 2) fa fd [x] (spIR K (rxT K) (callF Pm k) id 1))
    (say : ∀ zs : List Int, zs.length ≤ n → ∃ S, callF Pm k false id [.scr (zs.map .int)] [] = .ok (.bl true) S) : PySem.W.WalkO q loose XP YP l.row.toRowW d [] (fun f vs => PySem.call f vs) := by
  refine Att.attach_call hn hdf fun w s₀ st mg mb fa o pm cd doc a its zs G Y ho hd hcd hmg obj ia hlen hg => ?_
  obtain ⟨K, fd, kin, hb, hF⟩ := F w mg fa _ Y G.T.g hmg
  refine call_true kin G.T.g G.T.b G.T.builtins G.T.nolimit hg obj ia (Nat.le_trans hlen hn2) hr hF hb fun H sq => ?_
  obtain ⟨S, e⟩ := say zs hlen
  refine ⟨false, ⟨[], []⟩, [], [.scr (zs.map .int)], rfl, ⟨rfl, List.nodup_nil, fun k o a (h : ([] : Hs)[k]? = some o) _ => by simp at h, fun a h => (List.not_mem_nil h).elim⟩, .cons (.scr ?_ Rs.of_ints) .nil, ?_⟩
  · rcases sq with h | h
    · exact .inl ⟨h, fun z => List.not_mem_nil z, fun z => List.not_mem_nil z⟩
    · exact .inr (.inr h)
  · rw [e]
    intro m' H' v x1 s1 r1
    cases r1
    rfl
end Tw
set_option Elab.async false
set_option linter.all false
set_option autoImplicit false
set_option maxRecDepth 100000
namespace Tw
open PySem PySem.Spec PyProof.Rows L2
def fasOf (fs : List Df) : List He.Fa := fs.filterMap (fun f => if f.sg.cls = none then some (He.Fa.glo f.sg.nm) else none) ++ biNm.map He.Fa.free
def mtsOf (fs : List Df) : List (String × Str) := fs.filterMap fun f => f.sg.cls.map fun c => (c, f.sg.nm)
def fdsOf (fs : List Df) (xs : List Xd) : List He.DefD := fs.map (·.d) ++ xs.map (·.d)
def clsInit (st : Stmt) : Stmt := match st with
  | .ClassDef _ _ _ (s :: _) _ _ _ _ _ _ _ => s
  | s => s
inductive NS | nil | node (b : Bool) (l r : NS)
def NS.ins : Nat → NS → Nat → NS
  | 0, t, _ => t
  | f + 1, t, i => match Nat.beq i 0 with
    | true => (match t with
      | .nil => .node true .nil .nil
      | .node _ l r => .node true l r)
    | false => (match Nat.beq (i % 2) 1 with
      | true => (match t with
        | .nil => .node false (NS.ins f .nil (i / 2)) .nil
        | .node b l r => .node b (NS.ins f l (i / 2)) r)
      | false => (match t with
        | .nil => .node false .nil (NS.ins f .nil (i / 2 - 1))
        | .node b l r => .node b l (NS.ins f r (i / 2 - 1))))
def NS.has : NS → Nat → Bool
  | .nil, _ => false
  | .node b l r, i => match Nat.beq i 0 with
    | true => b
    | false => (match Nat.beq (i % 2) 1 with
      | true => l.has (i / 2)
      | false => r.has (i / 2 - 1))
def levT (g : Addr → Option Obj) : List Addr → NS → List Addr → (List Addr → NS → List Addr) → List Addr
  | [], seen, nx, k => k nx seen
  | a :: r, seen, nx, k => match seen.has a with
    | true => levT g r seen nx k
    | false => match g a with
      | none => levT g r seen nx k
      | some o => a :: levT g r (NS.ins 24 seen a) (He.refsD o ++ nx) k
def reachT (g : Addr → Option Obj) : Nat → List Addr → NS → List Addr
  | 0, _, _ => []
  | n + 1, fr, seen => levT g fr seen [] fun nx seen => reachT g n nx seen
abbrev AlX : Type := Bool × He.AlD
def cstB (K : PySem.W.Frag) (c : Str × Lit) : Bool := match PySem.W.nsIn K mainGlobals c.1 with
  | some (some u) => litRel c.2 u
  | _ => false
def lookX (cs : List String) (ks : List (Str × Lit)) (ms : List (String × Str)) (fa : List He.Fa) (fn : List He.DefD) (K : PySem.W.Frag) : AlX := ((cs.all fun c => xdB K c) && (ks.all fun c => cstB K c) && (ms.all fun m => mtB K m), He.obsD fa fn K)
def lookG (n : Nat) (cs : List String) (ks : List (Str × Lit)) (ms : List (String × Str)) (fa : List He.Fa) (fn : List He.DefD) (g : Addr → Option Obj) : AlX := lookX cs ks ms fa fn (He.frG g (reachT g (n + 1) [mainGlobals] .nil))
def hookX (n : Nat) (cs : List String) (ks : List (Str × Lit)) (ms : List (String × Str)) (fa : List He.Fa) (fn : List He.DefD) : PySem.W.Hook where
  α := AlX
  obs := fun s => lookG n cs ks ms fa fn s.heap.get?
  val := fun _ => (true, He.valD fn)
  says := fun _ h => ∃ K : PySem.W.Frag, K.In h ∧ (∀ c ∈ cs, xdB K c = true) ∧ (∀ c ∈ ks, cstB K c = true) ∧ (∀ m ∈ ms, mtB K m = true) ∧ He.SaysD fa fn K
  of := fun _ _ e => by
    obtain ⟨e1, e2⟩ := Prod.mk.inj (show ((cs.all fun c => xdB _ c) && (ks.all fun c => cstB _ c) && (ms.all fun m => mtB _ m), He.obsD fa fn _) = (true, He.valD fn) from e)
    rw [Bool.and_eq_true, Bool.and_eq_true] at e1
    exact ⟨_, He.frG_in, List.all_eq_true.mp e1.1.1, List.all_eq_true.mp e1.1.2, List.all_eq_true.mp e1.2, e2⟩
  keeps := fun _ _ _ ⟨K, hK, c1, c3, c4, c2⟩ k => ⟨K, PySem.W.Frag.In.keeps hK k, c1, c3, c4, c2⟩
theorem lookG_eq {n : Nat} {cs : List String} {ks : List (Str × Lit)} {ms : List (String × Str)} {fa : List He.Fa} {fn : List He.DefD} {g : Addr → Option Obj} {s : Shared} (h : ∀ a, g a = s.heap.get? a) : lookG n cs ks ms fa fn g = (hookX n cs ks ms fa fn).obs s := by
  rw [show g = s.heap.get? from funext h]
  rfl
theorem defs_of {P : Program} {w : World} {K : PySem.W.Frag} {h : Heap} {mg : Str → Option Value} {fs : List Df} {xs : List Xd} {cs : List (Str × Lit)} {Pm : Pg} (X : K.In h) (G : h.Ns mainGlobals mg) (c1 : ∀ c ∈ xs.map (·.c), xdB K c = true) (c3 : ∀ c ∈ cs, cstB K c = true) (c4 : ∀ m ∈ mtsOf fs, mtB K m = true) (c : He.SaysD (fasOf fs) (fdsOf fs xs) K)
    (good : (fs.all fun f => f.good) = true) (xgood : (xs.all fun x => x.good) = true) (body : ∀ f ∈ fs, ∃ b, cSs 300 (f.cn (fs.map (·.sg)) (xs.map (·.c)) cs) f.d.body = some b ∧ Pm f.sg.id = some ⟨f.sg.ps.length, f.N.length, b⟩) : Defs P w K mg fs xs cs Pm where
  good := List.all_eq_true.mp good
  body := body
  obj := fun f hf => by
    obtain ⟨i, hi⟩ := List.mem_iff_getElem?.mp hf
    have hl := (List.getElem?_eq_some_iff.mp hi).1
    exact c.def_ i (d := f.d) (by unfold fdsOf; rw [List.getElem?_append_left (by simpa using hl), List.getElem?_map, hi]; rfl)
  glo := fun f hf hc => by
    obtain ⟨i, hi⟩ := List.mem_iff_getElem?.mp (show He.Fa.glo f.sg.nm ∈ fasOf fs from List.mem_append_left _ (List.mem_filterMap.mpr ⟨f, hf, if_pos hc⟩))
    have := He.glo_ok X G (c.fact i (f := .glo f.sg.nm) hi)
    have hg := List.all_eq_true.mp good f hf
    unfold Df.good at hg
    simp only [Bool.and_eq_true, decide_eq_true_eq] at hg
    rw [hg.1.1.1.1.1.1.1.1]
    unfold Df.at_
    rw [hc]
    exact this
  meth := fun f hf c' hc => by
    have q := c4 (c', f.sg.nm) (List.mem_filterMap.mpr ⟨f, hf, by rw [hc]; rfl⟩)
    refine ⟨q, ?_⟩
    unfold mtB at q
    simp only [Bool.and_eq_true] at q
    exact PySem.W.mg_of X G (kcB_ok q.1.1.1).2.2.2
  free := fun x hx => by
    obtain ⟨i, hi⟩ := List.mem_iff_getElem?.mp (show He.Fa.free x ∈ fasOf fs from List.mem_append_right _ (List.mem_map.mpr ⟨x, hx, rfl⟩))
    exact He.free_ok X G (c.fact i (f := .free x) hi)
  xgood := List.all_eq_true.mp xgood
  xobj := fun x hx => by
    obtain ⟨i, hi⟩ := List.mem_iff_getElem?.mp hx
    exact c.def_ (fs.length + i) (d := x.d) (by unfold fdsOf; rw [List.getElem?_append_right (by simp), List.length_map, Nat.add_sub_cancel_left, List.getElem?_map, hi]; rfl)
  xglo := fun x hx => by
    have q := c1 x.c (List.mem_map_of_mem hx)
    unfold xdB at q
    simp only [Bool.and_eq_true, decide_eq_true_eq] at q
    exact PySem.W.mg_of X G q.1.1.2
  xok := fun x hx => c1 x.c (List.mem_map_of_mem hx)
  cst := fun k hk => by
    have q := c3 k hk
    unfold cstB at q
    split at q
    · rename_i u e
      exact ⟨u, PySem.W.mg_of X G e, q⟩
    · cases q
theorem facts_of {P : Program} {w : World} {K : PySem.W.Frag} {h : Heap} {mg : Str → Option Value} {fs : List Df} {xs : List Xd} {cs : List (Str × Lit)} {Pm : Pg} {fa : Addr} {f : Df} {x nm : Str} (k : Nat) (X : K.In h) (hmg : mg nm = some (.ref fa)) (st : Defs P w K mg fs xs cs Pm)
    (hf : f ∈ fs) (hcl : f.sg.cls = none) (hn : f.sg.nm = nm) (hps : f.sg.ps = [x]) : ∃ fd : FuncData, (∀ (s : Shared) (u : Value), BindsTo s fd ⟨[u], []⟩ [(x, u)]) ∧ ∀ base : Heap, K.In base → base.Ns mainGlobals mg → FnG P w K mg base (L2.CX P w) (2 * k + 2) fa fd [x] (spIR K (rxT K) (callF Pm k) f.sg.id 1) := by
  have e := hmg.symm.trans (hn ▸ st.glo f hf hcl)
  cases e
  obtain ⟨fd, F⟩ := st.obj f hf
  have FD := fdOk_of (st.good f hf) F
  rw [hps] at FD
  refine ⟨fd, fun s u => ?_, fun base _ _ => ?_⟩
  · have := binds_kw (s := s) (us := [u]) (ws := []) (ks := []) (perm := [0]) FD (by unfold permOf; simp) rfl
    exact this
  · have := all_fn (base := base) st k f hf fd F
    rw [hps] at this
    exact this
end Tw
set_option Elab.async false
set_option linter.all false
set_option maxRecDepth 100000
set_option maxHeartbeats 0
namespace K66
open PySem PySem.Spec PyProof.Rows Tw L2
def top (i : Nat) : Stmt := PySem.Challenge.pw_towlines_k66_refusals_made.main.body.getD i (.Pass ⟨0, 0, 0, 0⟩)
def d__law_box : He.DefD := ⟨("_law_box", none), "_law_box", "_law_box", defArgs (top 14), defBody (top 14), defScope (top 14), [], []⟩
def f__law_box : Df := ⟨d__law_box, ⟨"_law_box", "_law_box", ["_law_cells_here", "_law_k"], false, [0, 0], none⟩, ["_law_cells_here", "_law_k", "_law_cell"], [], 1⟩
def d__law_take : He.DefD := ⟨("_law_take", none), "_law_take", "_law_take", defArgs (top 15), defBody (top 15), defScope (top 15), [], []⟩
def f__law_take : Df := ⟨d__law_take, ⟨"_law_take", "_law_take", ["_law_box_here", "_law_below"], false, [1, 0], none⟩, ["_law_box_here", "_law_below", "_law_found", "_law_blend"], [("_law_box_here", 1)], 0⟩
def d__law_cells : He.DefD := ⟨("_law_cells", none), "_law_cells", "_law_cells", defArgs (top 16), defBody (top 16), defScope (top 16), [], []⟩
def f__law_cells : Df := ⟨d__law_cells, ⟨"_law_cells", "_law_cells", ["_law_script", "_law_utmost"], false, [0, 0], none⟩, ["_law_script", "_law_utmost", "_law_cells_here", "_law_k", "_law_cell"], [("_law_cells_here", 1)], 0⟩
def d__law_same : He.DefD := ⟨("_law_same", none), "_law_same", "_law_same", defArgs (top 17), defBody (top 17), defScope (top 17), [], []⟩
def f__law_same : Df := ⟨d__law_same, ⟨"_law_same", "_law_same", ["_law_found", "_law_due"], false, [0, 0], none⟩, ["_law_found", "_law_due"], [], 0⟩
def d__law_kinds : He.DefD := ⟨("_law_kinds", none), "_law_kinds", "_law_kinds", defArgs (top 18), defBody (top 18), defScope (top 18), [], []⟩
def f__law_kinds : Df := ⟨d__law_kinds, ⟨"_law_kinds", "_law_kinds", ["_law_error"], false, [0], none⟩, ["_law_error", "_law_some"], [], 0⟩
def d__law_are_alone : He.DefD := ⟨("_law_are_alone", none), "_law_are_alone", "_law_are_alone", defArgs (top 19), defBody (top 19), defScope (top 19), [], []⟩
def f__law_are_alone : Df := ⟨d__law_are_alone, ⟨"_law_are_alone", "_law_are_alone", ["_law_made"], false, [0], none⟩, ["_law_made", "_law_at", "_law_error", "_law_bases", "_law_k", "_law_due"], [], 0⟩
def d__law_right : He.DefD := ⟨("_law_right", none), "_law_right", "_law_right", defArgs (top 20), defBody (top 20), defScope (top 20), [], []⟩
def f__law_right : Df := ⟨d__law_right, ⟨"_law_right", "_law_right", ["_law_box_here"], false, [1], none⟩, ["_law_box_here", "_law_far", "_law_made", "_law_heard", "_law_due"], [("_law_box_here", 1), ("_law_heard", 1)], 0⟩
def d_law : He.DefD := ⟨("law", none), "law", "law", defArgs (top 21), defBody (top 21), defScope (top 21), [], []⟩
def f_law : Df := ⟨d_law, ⟨"law", "law", ["_law_script"], false, [0], none⟩, ["_law_script", "_law_cells_here", "_law_k", "_law_box_here", "_law_turn"], [("_law_box_here", 1)], 0⟩
def fs : List Df := [f__law_box, f__law_take, f__law_cells, f__law_same, f__law_kinds, f__law_are_alone, f__law_right, f_law]
def xd_BadText : Xd := ⟨"BadText", ⟨("BadText", some ("__init__" : Str)), "__init__", "BadText.__init__", defArgs (clsInit (top 1)), defBody (clsInit (top 1)), defScope (clsInit (top 1)), [], []⟩⟩
def xd_BadRow : Xd := ⟨"BadRow", ⟨("BadRow", some ("__init__" : Str)), "__init__", "BadRow.__init__", defArgs (clsInit (top 2)), defBody (clsInit (top 2)), defScope (clsInit (top 2)), [], []⟩⟩
def xd_Slips : Xd := ⟨"Slips", ⟨("Slips", some ("__init__" : Str)), "__init__", "Slips.__init__", defArgs (clsInit (top 3)), defBody (clsInit (top 3)), defScope (clsInit (top 3)), [], []⟩⟩
def xd_NotThere : Xd := ⟨"NotThere", ⟨("NotThere", some ("__init__" : Str)), "__init__", "NotThere.__init__", defArgs (clsInit (top 4)), defBody (clsInit (top 4)), defScope (clsInit (top 4)), [], []⟩⟩
def xd_NoBoat : Xd := ⟨"NoBoat", ⟨("NoBoat", some ("__init__" : Str)), "__init__", "NoBoat.__init__", defArgs (clsInit (top 5)), defBody (clsInit (top 5)), defScope (clsInit (top 5)), [], []⟩⟩
def xd_NoLine : Xd := ⟨"NoLine", ⟨("NoLine", some ("__init__" : Str)), "__init__", "NoLine.__init__", defArgs (clsInit (top 6)), defBody (clsInit (top 6)), defScope (clsInit (top 6)), [], []⟩⟩
def xd_NoCrew : Xd := ⟨"NoCrew", ⟨("NoCrew", some ("__init__" : Str)), "__init__", "NoCrew.__init__", defArgs (clsInit (top 7)), defBody (clsInit (top 7)), defScope (clsInit (top 7)), [], []⟩⟩
def xd_NoRow : Xd := ⟨"NoRow", ⟨("NoRow", some ("__init__" : Str)), "__init__", "NoRow.__init__", defArgs (clsInit (top 8)), defBody (clsInit (top 8)), defScope (clsInit (top 8)), [], []⟩⟩
def xd_NoDeed : Xd := ⟨"NoDeed", ⟨("NoDeed", some ("__init__" : Str)), "__init__", "NoDeed.__init__", defArgs (clsInit (top 9)), defBody (clsInit (top 9)), defScope (clsInit (top 9)), [], []⟩⟩
def xd_Behind : Xd := ⟨"Behind", ⟨("Behind", some ("__init__" : Str)), "__init__", "Behind.__init__", defArgs (clsInit (top 10)), defBody (clsInit (top 10)), defScope (clsInit (top 10)), [], []⟩⟩
def xd_NotEnough : Xd := ⟨"NotEnough", ⟨("NotEnough", some ("__init__" : Str)), "__init__", "NotEnough.__init__", defArgs (clsInit (top 11)), defBody (clsInit (top 11)), defScope (clsInit (top 11)), [], []⟩⟩
def xd_TooMany : Xd := ⟨"TooMany", ⟨("TooMany", some ("__init__" : Str)), "__init__", "TooMany.__init__", defArgs (clsInit (top 12)), defBody (clsInit (top 12)), defScope (clsInit (top 12)), [], []⟩⟩
def xs : List Xd := [xd_BadText, xd_BadRow, xd_Slips, xd_NotThere, xd_NoBoat, xd_NoLine, xd_NoCrew, xd_NoRow, xd_NoDeed, xd_Behind, xd_NotEnough, xd_TooMany]
def cs : List (Str × Lit) := []
def loose0 : List PySem.Str := ["BadText", "BadRow", "Slips", "NotThere", "NoBoat", "NoLine", "NoCrew", "NoRow", "NoDeed", "Behind", "NotEnough", "TooMany", "_law_box", "_law_take", "_law_cells", "_law_same"]
def loose1 : List PySem.Str := ["_law_kinds", "_law_are_alone", "_law_right"]
def loose : List PySem.Str := loose0 ++ loose1
abbrev R : PySem.W.OpenRow := PySem.W.OpenLaw.row PySem.Challenge.rw_towlines_k66_refusals_made
abbrev hk : PySem.W.Hook := hookX 6 (xs.map (·.c)) cs (mtsOf fs) (fasOf fs) (fdsOf fs xs)
def ob (s : PySem.W.SharedT) : AlX := lookG 6 (xs.map (·.c)) cs (mtsOf fs) (fasOf fs) (fdsOf fs xs) (HandSHeadRun.getT s)
theorem ob_eq (s : PySem.W.SharedT) : ob s = hk.obs s.abs := lookG_eq (HandSHeadRun.getT_eq s)
theorem run (w : World) : HandSHeadRun.RunEq R (PySem.W.view R.prog [21]) hk ob 4000 loose w := by
  intro os
  kernel_rfl
end K66
set_option Elab.async false
set_option linter.all false
set_option autoImplicit false
set_option maxRecDepth 100000
namespace Tw
open PySem
variable {cl : Cl} {σ : Sv} {s : Hs} {α β : Type}
theorem Z0 (a : α) (s : Hs) (f : α → Hs → Out β) : (Out.ok a s).bind f = f a s := id rfl
theorem Z1 {γ : Type} (o : Out α) (f : α → Hs → Out β) (g : β → Hs → Out γ) : (o.bind f).bind g = o.bind fun x s => (f x s).bind g := Out.bind_assoc ..
theorem Z2 (a : α) (s : Hs) : lift (some a) s = .ok a s := id rfl
theorem Z3 (a : α) (s : Hs) : noX (Out.ok a s) = .ok a s := id rfl
theorem Z4 (i : Nat) : ev cl (.var i) σ s = (match σ[i]? with
  | some (some v) => .ok v s
  | _ => .bad) := id rfl
theorem Z5 (v : Lit) : ev cl (.lit v) σ s = .ok v.vv s := id rfl
theorem Z6 : Lit.vv .non = .non := id rfl
theorem Z7 (b : Bool) : Lit.vv (.bl b) = .bl b := id rfl
theorem Z8 (i : Int) : Lit.vv (.int i) = .int i := id rfl
theorem Z9 (x : Str) : Lit.vv (.str x) = .str x := id rfl
theorem Za (m : Bool) (o : Bop) (a b : Ex) : ev cl (.bin m o a b) σ s = (ev cl a σ s).bind fun x s => (ev cl b σ s).bind fun y s => binG m o x y s := id rfl
theorem Zb (a : Ex) : ev cl (.neg a) σ s = (ev cl a σ s).bind fun x s => gNeg x s := id rfl
theorem Zd (a : Ex) : ev cl (.no a) σ s = (ev cl a σ s).bind fun x s => lift ((trV s x).map fun b => .bl (!b)) s := id rfl
theorem Ze (es : List Ex) : ev cl (.conj es) σ s = evAnd cl es σ s := id rfl
theorem Zf (es : List Ex) : ev cl (.disj es) σ s = evOr cl es σ s := id rfl
theorem Zg (o : Cop) (a b : Ex) : ev cl (.cmp o a b) σ s = (ev cl a σ s).bind fun x s => (ev cl b σ s).bind fun y s => gCmp o x y s := id rfl
theorem Zh (o p : Cop) (a b c : Ex) : ev cl (.chain o p a b c) σ s = (ev cl a σ s).bind fun x s => (ev cl b σ s).bind fun y s => (lift (cmpV s o x y) s).bind fun t s =>
    if t then (ev cl c σ s).bind fun z s => gCmp p y z s else .ok (.bl false) s := id rfl
theorem Zi (o p q : Cop) (a b c d : Ex) : ev cl (.chain3 o p q a b c d) σ s = (ev cl a σ s).bind fun x s => (ev cl b σ s).bind fun y s => (lift (cmpV s o x y) s).bind fun t s =>
    if t then (ev cl c σ s).bind fun z s => (lift (cmpV s p y z) s).bind fun t s => if t then (ev cl d σ s).bind fun u s => gCmp q z u s else .ok (.bl false) s else .ok (.bl false) s := id rfl
theorem Zj (c a b : Ex) : ev cl (.ite c a b) σ s = (ev cl c σ s).bind fun x s => (lift (trV s x) s).bind fun t s => if t then ev cl a σ s else ev cl b σ s := id rfl
theorem Zk (es : List Ex) : ev cl (.tup es) σ s = (evs cl es σ s).bind fun vs s => mkT vs s := id rfl
theorem Zl (m : Bool) (es : List Ex) : ev cl (.lst m es) σ s = (evs cl es σ s).bind fun vs s => mkL m vs s := id rfl
theorem Zm (a i : Ex) : ev cl (.idx a i) σ s = (ev cl a σ s).bind fun x s => (ev cl i σ s).bind fun y s => gIdx x y s := id rfl
theorem Zn (m : Bool) (a lo hi : Ex) : ev cl (.sl m a lo hi) σ s = (ev cl a σ s).bind fun x s => (ev cl lo σ s).bind fun l s => (lift (bndOf lo l) s).bind fun l s =>
    (ev cl hi σ s).bind fun u s => (lift (bndOf hi u) s).bind fun u s => gSl m x l u s := id rfl
theorem Zo (k : Bool) (f : String) (es : List Ex) : ev cl (.call k f es) σ s = (evs cl es σ s).bind fun vs s => cl k f vs s := id rfl
theorem Zp (k : Bool) (f : String) (p : List Nat) (es : List Ex) : ev cl (.callk k f p es) σ s = (evs cl es σ s).bind fun vs s => cl k f (p.filterMap fun i => vs[i]?) s := id rfl
theorem Zq (m : Bool) (b : Bi) (es : List Ex) : ev cl (.bi m b es) σ s = (evs cl es σ s).bind fun vs s => biV m b vs s := id rfl
theorem Zr (b : Bm) (o : Ex) (es : List Ex) : ev cl (.bm b o es) σ s = (ev cl o σ s).bind fun v s => (lift (bmTy b v s) s).bind fun _ s => (evs cl es σ s).bind fun vs s => bmV b v vs s := id rfl
def stepC (cl : Cl) (elt : Ex) (tg : Tg) (cs : List Ex) (own : List Nat) (σ : Sv) : VV → Hs → Out (Option VV) := fun x s => match asg tg x (wip σ own) with
  | none => .bad
  | some σ' => (evC cl cs σ' s).bind fun b s => if b then (ev cl elt σ' s).bind fun v s => .ok (some v) s else .ok none s
theorem Zs (m : Bool) (elt : Ex) (tg : Tg) (it : It) (cs : List Ex) (own : List Nat) : ev cl (.comp m elt tg it cs own) σ s = (evIt cl it σ s).bind fun r s => (noX (compL r.2 (stepC cl elt tg cs own σ) r.1 s)).bind fun vs s => mkL m vs s := id rfl
theorem Zt : evs cl [] σ s = .ok [] s := id rfl
theorem Zu (e : Ex) (es : List Ex) : evs cl (e :: es) σ s = (ev cl e σ s).bind fun v s => (evs cl es σ s).bind fun vs s => .ok (v :: vs) s := id rfl
theorem Zv (e : Ex) : evAnd cl [e] σ s = ev cl e σ s := id rfl
theorem Zw (e f : Ex) (es : List Ex) : evAnd cl (e :: f :: es) σ s = (ev cl e σ s).bind fun v s => (lift (trV s v) s).bind fun t s => if t then evAnd cl (f :: es) σ s else .ok v s := id rfl
theorem Zx (e : Ex) : evOr cl [e] σ s = ev cl e σ s := id rfl
theorem Zy (e f : Ex) (es : List Ex) : evOr cl (e :: f :: es) σ s = (ev cl e σ s).bind fun v s => (lift (trV s v) s).bind fun t s => if t then .ok v s else evOr cl (f :: es) σ s := id rfl
theorem Zz : evC cl [] σ s = .ok true s := id rfl
theorem ZA (e : Ex) : evC cl [e] σ s = (ev cl e σ s).bind fun v s => lift (trV s v) s := by
  show (ev cl e σ s).bind _ = _
  congr 1
  funext v s
  cases trV s v with
  | none => rfl
  | some b => cases b <;> rfl
theorem ZB (es : List Ex) : evIt cl (.range es) σ s = (evs cl es σ s).bind fun vs s => gRange vs s := id rfl
theorem ZC (a b : Ex) : evIt cl (.zip a b) σ s = (ev cl a σ s).bind fun x s => (ev cl b σ s).bind fun y s => gZip x y s := id rfl
theorem ZD (a : Ex) : evIt cl (.enum a) σ s = (ev cl a σ s).bind fun x s => gEnum x s := id rfl
theorem ZE (e : Ex) : evIt cl (.pl e) σ s = (ev cl e σ s).bind fun x s => lift (srcOf s x) s := id rfl
theorem ZF : exs cl [] σ s = .ok (.nx σ) s := id rfl
def thenS (cl : Cl) (r : List Stm) : Fl → Hs → Out Fl := fun f s => match f with
  | .nx σ => exs cl r σ s
  | f => .ok f s
theorem ZG (st : Stm) (r : List Stm) : exs cl (st :: r) σ s = (exe cl st σ s).bind (thenS cl r) := id rfl
theorem ZH (r : List Stm) : thenS cl r (.nx σ) s = exs cl r σ s := id rfl
theorem ZI (r : List Stm) (v : VV) : thenS cl r (.rt v) s = .ok (.rt v) s := id rfl
theorem ZJ (r : List Stm) : thenS cl r (.bk σ) s = .ok (.bk σ) s := id rfl
theorem ZK (r : List Stm) : thenS cl r (.ct σ) s = .ok (.ct σ) s := id rfl
theorem ZL (r : List Stm) (v : VV) : thenS cl r (.xc v σ) s = .ok (.xc v σ) s := id rfl
theorem ZM (f : Fl) : cat σ (.ok f s) = .ok f s := id rfl
theorem ZN (t : Tg) (e : Ex) : exe cl (.asg t e) σ s = cat σ ((ev cl e σ s).bind fun v s => lift ((asg t v σ).map Fl.nx) s) := id rfl
theorem ZO (o i e : Ex) : exe cl (.sub o i e) σ s = cat σ ((ev cl e σ s).bind fun v s => (ev cl o σ s).bind fun x s => (ev cl i σ s).bind fun y s => (setAt s x y v).bind fun _ s => .ok (.nx σ) s) := id rfl
theorem ZP (i : Nat) (o : Bop) (e : Ex) : exe cl (.aug i o e) σ s = (match σ[i]? with
  | some (some x) => cat σ ((ev cl e σ s).bind fun y s => match x, y with
    | .int _, .int _ => (binV o x y s).bind fun z s => .ok (.nx (σ.set i (some z))) s
    | _, _ => .bad)
  | _ => .bad) := id rfl
theorem ZQ (e : Ex) : exe cl (.expr e) σ s = cat σ ((ev cl e σ s).bind fun _ s => .ok (.nx σ) s) := id rfl
theorem ZR (e : Ex) : exe cl (.ret e) σ s = cat σ ((ev cl e σ s).bind fun v s => .ok (.rt v) s) := id rfl
theorem ZS (c : Ex) (a b : List Stm) : exe cl (.ife c a b) σ s = cat σ ((ev cl c σ s).bind fun x s => (lift (trV s x) s).bind fun t s => if t then exs cl a σ s else exs cl b σ s) := id rfl
def stepF (cl : Cl) (t : Tg) (b : List Stm) : VV → Sv → Hs → Out Fl := fun x σ s => match asg t x σ with
  | some σ => exs cl b σ s
  | none => .bad
theorem stepF_v (i : Nat) (b : List Stm) (x : VV) : stepF cl (.var i) b x σ s = exs cl b (σ.set i (some x)) s := id rfl
theorem ZT (t : Tg) (it : It) (b : List Stm) : exe cl (.forr t it b) σ s = cat σ ((evIt cl it σ s).bind fun r s => forL r.2 (stepF cl t b) r.1 σ s) := id rfl
theorem ZU (i : Nat) (v : VV) : asg (.var i) v σ = some (σ.set i (some v)) := id rfl
theorem ZV (ts : List Tg) (xs : List VV) : asg (.tup ts) (.tup xs) σ = asgs ts xs σ := id rfl
theorem ZW (ts : List Tg) (xs : List VV) : asg (.tup ts) (.lst xs) σ = asgs ts xs σ := id rfl
theorem ZX : asgs [] [] σ = some σ := id rfl
theorem ZY (t : Tg) (ts : List Tg) (v : VV) (vs : List VV) : asgs (t :: ts) (v :: vs) σ = (match asg t v σ with
  | some σ' => asgs ts vs σ'
  | none => none) := id rfl
theorem ZZ (a : α) (f : α → β) : Option.map f (some a) = some (f a) := id rfl
theorem Z00 {α : Type} (a : α) (l : List α) : (a :: l)[0]? = some a := id rfl
theorem Z01 {α : Type} (a : α) (l : List α) (i : Nat) : (a :: l)[i + 1]? = l[i]? := id rfl
theorem Z02 {α : Type} (a b : α) (l : List α) : (a :: l).set 0 b = b :: l := id rfl
theorem Z03 {α : Type} (a b : α) (l : List α) (i : Nat) : (a :: l).set (i + 1) b = a :: l.set i b := id rfl
theorem Z04 : wip σ [] = σ := id rfl
theorem Z05 (v : Nat) (vs : List Nat) : wip σ (v :: vs) = (wip σ vs).set v none := id rfl
theorem Z06 (b : Bool) : trV s (.bl b) = some b := id rfl
theorem Z07 (i : Int) : trV s (.int i) = some (i != 0) := id rfl
theorem Z08 (m : Bool) (o : Bop) (a b : Int) : binG m o (.int a) (.int b) s = lift ((arith o a b).map VV.int) s := id rfl
theorem Z09 (m : Bool) (o : Bop) (a b : Str) : binG m o (.str a) (.str b) s = catS o a b s := id rfl
theorem Z0a (c : String) (e : Ex) : ev cl (.xmk c e) σ s = (ev cl e σ s).bind fun x s => .ok (.exc c x) s := id rfl
theorem Z0b (a b : Int) : arith .add a b = some (a + b) := id rfl
theorem Z0c (a b : Int) : arith .sub a b = some (a - b) := id rfl
def gIdxD (x y : VV) (s : Hs) : Out VV := match getDV s x y with
  | some o => lift o s
  | none => lift ((atS x y).or (getLI s x y)) s
theorem Z0d (x : VV) (j : Int) : gIdx x (.int j) s = (match seqOf s x with
  | some xs => lift (atV xs j) s
  | none => gIdxD x (.int j) s) := by
  unfold gIdx
  cases seqOf s x <;> rfl
theorem Z0e (m t : Bool) (kx vx : Ex) (tg : Tg) (it : It) (cs : List Ex) (own : List Nat) : ev cl (.dcomp m t kx vx tg it cs own) σ s = (evIt cl it σ s).bind fun r s => (noX (compL r.2 (stepC cl (.tup [kx, vx]) tg cs own σ) r.1 s)).bind fun vs s => (lift (putAll t vs []) s).bind fun kvs s => mkD m t kvs s := by
  have e : (stepC cl (.tup [kx, vx]) tg cs own σ) = (fun x s => match asg tg x (wip σ own) with
        | none => .bad
        | some σ' => (evC cl cs σ' s).bind fun b s => if b then (ev cl kx σ' s).bind fun k s => (ev cl vx σ' s).bind fun v s => .ok (some (.tup [k, v])) s else .ok none s) := by
    funext x s
    unfold stepC
    cases asg tg x (wip σ own) with
    | none => rfl
    | some σ' =>
      show Out.bind _ _ = Out.bind _ _
      congr 1
      funext b s
      cases b with
      | false => rfl
      | true =>
        show ((((ev cl kx σ' s).bind fun v s => ((ev cl vx σ' s).bind fun v s => (Out.ok [] s).bind fun vs s => .ok (v :: vs) s).bind fun vs s => .ok (v :: vs) s)).bind fun vs s => mkT vs s).bind (fun v s => Out.ok (some v) s) = (ev cl kx σ' s).bind fun k s => (ev cl vx σ' s).bind fun v s => .ok (some (.tup [k, v])) s
        simp only [Out.bind_assoc]
        congr 1
  rw [e]
  exact rfl
theorem Z0f (m : Bool) (elt : Ex) (tg : Tg) (it : It) (cs : List Ex) (own : List Nat) : ev cl (.scomp m elt tg it cs own) σ s = (evIt cl it σ s).bind fun r s => (noX (compL r.2 (stepC cl elt tg cs own σ) r.1 s)).bind fun vs s => (lift (intsOf vs) s).bind fun ns s => if (sortS ns).length < 64 then mkL m ((sortS ns).map .int) s else .bad := id rfl
theorem Z0g (xs : List VV) : seqOf s (.tup xs) = some xs := id rfl
theorem Z0h (xs : List VV) : seqOf s (.lst xs) = some xs := id rfl
theorem Z0i (k : Nat) : seqOf s (.ref k) = kid s k := id rfl
theorem Z0j (o : Cop) (x y : VV) : gCmp o x y s = lift ((cmpV s o x y).map VV.bl) s := id rfl
theorem Z0k (a b : Int) : cmpV s .lt (.int a) (.int b) = some (decide (a < b)) := id rfl
theorem Z0l (a b : Int) : cmpV s .gt (.int a) (.int b) = some (decide (b < a)) := id rfl
theorem Z0m (a b : Int) : cmpV s .le (.int a) (.int b) = some (decide (a ≤ b)) := id rfl
theorem Z0n (a b : Int) : cmpV s .ge (.int a) (.int b) = some (decide (b ≤ a)) := id rfl
theorem eqv_ii (a b : Int) : PyData.eqv (.int a) (.int b) = decide (a = b) := by
  unfold PyData.eqv
  first | rfl | simp
theorem Z0o (a b : Int) : cmpV s .eq (.int a) (.int b) = some (decide (a = b)) := congrArg some (eqv_ii a b)
theorem Z0p (a b : Int) : cmpV s .ne (.int a) (.int b) = some (!decide (a = b)) := congrArg (fun x => some (!x)) (eqv_ii a b)
theorem Z0q : cmpV s .is_ .non .non = some true := id rfl
theorem Z0r (a : Int) : cmpV s .is_ (.int a) .non = some false := id rfl
theorem Z0s : cmpV s .isnot .non .non = some false := id rfl
theorem Z0t (a : Int) : cmpV s .isnot (.int a) .non = some true := id rfl
theorem Z0u (a : Int) : gNeg (.int a) s = .ok (.int (-a)) s := id rfl
theorem ar_mod (a b : Int) (h : 0 < b) : arith .mod a b = some (a % b) := if_pos h
theorem ar_fdiv (a b : Int) (h : 0 < b) (h2 : b < 2 ^ 64) : arith .fdiv a b = some (a / b) := if_pos ⟨h, h2⟩
theorem small_of {i : Int} (h : -(2 ^ 64) < i) (h2 : i < 2 ^ 64) : small i = true := decide_eq_true ⟨h, h2⟩
theorem ar_mulL (a b : Int) (h : small a = true) : arith .mul a b = some (a * b) := by
  show (if (small a || small b) = true then _ else _) = _
  rw [h, Bool.true_or]
  rfl
theorem ar_mulR (a b : Int) (h : small b = true) : arith .mul a b = some (a * b) := by
  show (if (small a || small b) = true then _ else _) = _
  rw [h, Bool.or_true]
  rfl
theorem kid_of {k : Nat} {xs : List VV} (h : s[k]? = some (.lst xs)) : kid s k = some xs := by
  unfold kid
  rw [h]
theorem Z0v (x : VV) (xs : List VV) : atV (x :: xs) 0 = some x := by
  unfold atV natIx
  simp
theorem at_nat {xs : List VV} {i : Nat} {x : VV} (h : xs[i]? = some x) : atV xs (i : Int) = some x := by
  have hl := (List.getElem?_eq_some_iff.mp h).1
  unfold atV natIx
  rw [if_pos (Int.natCast_nonneg i), if_pos (by omega)]
  simpa using h
theorem Z0w (x y : VV) (xs : List VV) : atV (x :: y :: xs) 1 = some y := at_nat (i := 1) rfl
theorem Z0x (x y z : VV) (xs : List VV) : atV (x :: y :: z :: xs) 2 = some z := at_nat (i := 2) rfl
theorem Z0y (k : Bool) (s0 : Hs) (v : VV) : outF k s0 (.rt v) s = fin k s0 v s := id rfl
theorem Z0z (k : Bool) (s0 : Hs) : outF k s0 (.nx σ) s = fin k s0 .non s := id rfl
theorem set_of {k : Nat} {xs : List VV} {j : Int} {n : Nat} {v : VV} (h : kid s k = some xs) (hn : natIx xs.length j = some n) : setAt s (.ref k) (.int j) v = .ok () (s.set k (.lst (xs.set n v))) := by
  show (match kid s k with
    | some xs => match natIx xs.length j with
      | some n => Out.ok () (s.set k (.lst (xs.set n v)))
      | none => Out.bad
    | none => setD s k (.int j) v) = _
  rw [h]
  dsimp only
  rw [hn]
theorem ix_nat {n i : Nat} (h : i < n) : natIx n (i : Int) = some i := by
  unfold natIx
  rw [if_pos (Int.natCast_nonneg i), if_pos (by omega)]
  rfl
theorem Z0A (m : Bool) (xs : List VV) : biV m .len [.lst xs] s = .ok (.int xs.length) s := id rfl
theorem Z0B (m : Bool) (xs : List VV) : biV m .len [.tup xs] s = .ok (.int xs.length) s := id rfl
def lenD (k : Nat) (s : Hs) : Out VV := match dctOf s (.ref k) with
  | some (_, kvs) => .ok (.int kvs.length) s
  | none => .bad
theorem Z0C (m : Bool) (k : Nat) : biV m .len [.ref k] s = (match kid s k with
  | some xs => .ok (.int xs.length) s
  | none => lenD k s) := by
  unfold lenD
  exact rfl
theorem Z0D (m : Bool) (i : Int) : biV m .abs [.int i] s = .ok (.int (if i < 0 then -i else i)) s := id rfl
theorem Z0E (m b : Bool) : biV m .int [.bl b] s = .ok (.int (if b then 1 else 0)) s := id rfl
theorem Z0F (m : Bool) (i : Int) : biV m .int [.int i] s = .ok (.int i) s := id rfl
theorem Z0G (m : Bool) (i j : Int) : biV m .max2 [.int i, .int j] s = .ok (.int (if j > i then j else i)) s := id rfl
theorem Z0H (m : Bool) (i j : Int) : biV m .min2 [.int i, .int j] s = .ok (.int (if j < i then j else i)) s := id rfl
theorem Z0I (m : Bool) (xs : List VV) : biV m .tuple [.tup xs] s = mkT xs s := id rfl
theorem Z0J (m : Bool) (xs : List VV) : biV m .tuple [.lst xs] s = mkT xs s := id rfl
theorem Z0K (m : Bool) (k : Nat) : biV m .tuple [.ref k] s = (match kid s k with
  | some xs => mkT xs s
  | none => .bad) := id rfl
def listD (m : Bool) (k : Nat) (s : Hs) : Out VV := match dctOf s (.ref k) with
  | some (_, kvs) => mkL m (kvs.map (·.1)) s
  | none => .bad
theorem Z0L (m : Bool) (xs : List VV) : biV m .list [.tup xs] s = mkL m xs s := id rfl
theorem Z0M (m : Bool) (xs : List VV) : biV m .list [.lst xs] s = mkL m xs s := id rfl
theorem Z0N (m : Bool) (k : Nat) : biV m .list [.ref k] s = (match kid s k with
  | some xs => mkL m xs s
  | none => listD m k s) := by
  unfold listD
  exact rfl
theorem Z0O : arith .pow 10 6 = some 1000000 := by decide
theorem Z0P : arith .pow 10 9 = some 1000000000 := by decide
theorem Z0Q : arith .pow 10 11 = some 100000000000 := by decide
theorem Z0R : arith .pow 10 18 = some 1000000000000000000 := by decide
theorem mkL_f {xs : List VV} (h : xs.length ≤ szL) : mkL false xs s = .ok (.lst xs) s := if_pos h
theorem mkL_t {xs : List VV} (h : xs.length ≤ szL) : mkL true xs s = .ok (.ref s.length) (s ++ [.lst xs]) := if_pos h
theorem mkT_k {xs : List VV} (h : xs.length ≤ szL) : mkT xs s = .ok (.tup xs) s := if_pos h
theorem sz_of {n : Nat} (h : n ≤ 65536) : n ≤ szL := by
  unfold szL
  omega
theorem Z0S : mkT ([] : List VV) s = .ok (.tup ([] : List VV)) s := mkT_k (sz_of (show 0 ≤ 65536 by omega))
theorem Z0T : mkL false ([] : List VV) s = .ok (.lst ([] : List VV)) s := mkL_f (sz_of (show 0 ≤ 65536 by omega))
theorem Z0U : mkL true ([] : List VV) s = .ok (.ref s.length) (s ++ [.lst ([] : List VV)]) := mkL_t (sz_of (show 0 ≤ 65536 by omega))
theorem Z0V (a : VV) : mkT [a] s = .ok (.tup [a]) s := mkT_k (sz_of (show 1 ≤ 65536 by omega))
theorem Z0W (a : VV) : mkL false [a] s = .ok (.lst [a]) s := mkL_f (sz_of (show 1 ≤ 65536 by omega))
theorem Z0X (a : VV) : mkL true [a] s = .ok (.ref s.length) (s ++ [.lst [a]]) := mkL_t (sz_of (show 1 ≤ 65536 by omega))
theorem Z0Y (a b : VV) : mkT [a, b] s = .ok (.tup [a, b]) s := mkT_k (sz_of (show 2 ≤ 65536 by omega))
theorem Z0Z (a b : VV) : mkL false [a, b] s = .ok (.lst [a, b]) s := mkL_f (sz_of (show 2 ≤ 65536 by omega))
theorem Z10 (a b : VV) : mkL true [a, b] s = .ok (.ref s.length) (s ++ [.lst [a, b]]) := mkL_t (sz_of (show 2 ≤ 65536 by omega))
theorem Z11 (a b c : VV) : mkT [a, b, c] s = .ok (.tup [a, b, c]) s := mkT_k (sz_of (show 3 ≤ 65536 by omega))
theorem Z12 (a b c : VV) : mkL false [a, b, c] s = .ok (.lst [a, b, c]) s := mkL_f (sz_of (show 3 ≤ 65536 by omega))
theorem Z13 (a b c : VV) : mkL true [a, b, c] s = .ok (.ref s.length) (s ++ [.lst [a, b, c]]) := mkL_t (sz_of (show 3 ≤ 65536 by omega))
theorem Z14 (a b c d : VV) : mkT [a, b, c, d] s = .ok (.tup [a, b, c, d]) s := mkT_k (sz_of (show 4 ≤ 65536 by omega))
theorem Z15 (a b c d : VV) : mkL false [a, b, c, d] s = .ok (.lst [a, b, c, d]) s := mkL_f (sz_of (show 4 ≤ 65536 by omega))
theorem Z16 (a b c d : VV) : mkL true [a, b, c, d] s = .ok (.ref s.length) (s ++ [.lst [a, b, c, d]]) := mkL_t (sz_of (show 4 ≤ 65536 by omega))
theorem Z17 (a b c d e : VV) : mkT [a, b, c, d, e] s = .ok (.tup [a, b, c, d, e]) s := mkT_k (sz_of (show 5 ≤ 65536 by omega))
theorem Z18 (a b c d e : VV) : mkL false [a, b, c, d, e] s = .ok (.lst [a, b, c, d, e]) s := mkL_f (sz_of (show 5 ≤ 65536 by omega))
theorem Z19 (a b c d e : VV) : mkL true [a, b, c, d, e] s = .ok (.ref s.length) (s ++ [.lst [a, b, c, d, e]]) := mkL_t (sz_of (show 5 ≤ 65536 by omega))
section
variable {cl : Cl} {σ : Sv} {s : Hs}
theorem Z1a (e : Ex) (f : PySem.Str) : ev cl (.fld e f) σ s = (ev cl e σ s).bind fun x s => gFld f x s := id rfl
theorem Z1b (f : PySem.Str) (c : String) (v : VV) : gFld f (.exc c v) s = if xF c = f then .ok v s else .bad := id rfl
theorem Z1c (e : Ex) (ts : List Xt) : ev cl (.isx e ts) σ s = (ev cl e σ s).bind fun x s => lift ((isxV ts x).map .bl) s := id rfl
theorem Z1d (ts : List Xt) (c : String) (v : VV) : isxV ts (.exc c v) = some (ts.any (subX c)) := id rfl
theorem Z1e (ts : List Xt) : isxV ts .non = some false := id rfl
theorem Z1f (x : VV) (k : Int) : bmV .count x [.int k] s = lift ((seqInts s x).map fun ns => .int (ns.count k : Nat)) s := by
  cases x <;> rfl
theorem Z1g (x : VV) (k : Bool) : bmV .count x [.bl k] s = lift ((seqBls s x).map fun bs => .int (bs.count k : Nat)) s := by
  cases x <;> rfl
theorem Z1h (v : VV) : cat σ (.exc v s) = .ok (.xc v σ) s := id rfl
theorem Z1i (c : String) (e : Ex) : exe cl (.rai c e) σ s = cat σ ((ev cl e σ s).bind fun v s => .exc (.exc c v) s) := id rfl
theorem Z1j (b : List Stm) (cs : List String) (i j : Nat) : exe cl (.tryk b cs i j) σ s = (noX (exs cl b σ s)).bind (tryF cs i j) := id rfl
theorem Z1k (cs : List String) (i j : Nat) : tryF cs i j (.nx σ) s = .ok (.nx σ) s := id rfl
theorem Z1l (cs : List String) (i j : Nat) (v : VV) : tryF cs i j (.rt v) s = .ok (.rt v) s := id rfl
theorem Z1m (cs : List String) (i j : Nat) (c : String) (v : VV) : tryF cs i j (.xc (.exc c v) σ) s = if cs.contains c then .ok (.nx ((σ.set j (some (.exc c v))).set i none)) s else .ok (.xc (.exc c v) σ) s := id rfl
theorem Z1n (b : List Stm) (c : String) (j : Nat) : exe cl (.tryn b c j) σ s = (noX (exs cl b σ s)).bind (tryNF c j) := id rfl
theorem Z1o (c : String) (j : Nat) : tryNF c j (.nx σ) s = .ok (.nx σ) s := id rfl
theorem Z1p (c d : String) (j : Nat) (v : VV) : tryNF c j (.xc (.exc d v) σ) s = if d = c then .ok (.nx (σ.set j (some .non))) s else .ok (.xc (.exc d v) σ) s := id rfl
theorem Z1q (k : Bool) (s0 : Hs) (c : String) (v : VV) : outF k s0 (.xc (.exc c v) σ) s = (fin k s0 v s).bind fun v s => .exc (.exc c v) s := id rfl
theorem Z1r {α β : Type} (v : VV) (f : α → Hs → Out β) : (Out.exc v s : Out α).bind f = .exc v s := id rfl
end
end Tw
namespace Tw
section
variable {cl : Cl} {σ : Sv} {s : Hs}
def stepC2 (cl : Cl) (elt : Ex) (tg : Tg) (cs : List Ex) (tg2 : Tg) (it2 : Tw.It) (cs2 : List Ex) (vs2 own : List Nat) (σ : Sv) : VV → Hs → Out (List VV) := fun x s => match asg tg x (wip σ own) with
  | none => .bad
  | some σ1 => (evC cl cs σ1 s).bind fun b s => if b then (evIt cl it2 σ1 s).bind fun r2 s => compL r2.2 (stepC cl elt tg2 cs2 vs2 σ1) r2.1 s else .ok [] s
theorem Z1s (m : Bool) (elt : Ex) (tg : Tg) (it : Tw.It) (cs : List Ex) (tg2 : Tg) (it2 : Tw.It) (cs2 : List Ex) (vs2 own : List Nat) : ev cl (.comp2 m elt tg it cs tg2 it2 cs2 vs2 own) σ s = (evIt cl it σ s).bind fun r s => (noX (compLL r.2 (stepC2 cl elt tg cs tg2 it2 cs2 vs2 own σ) r.1 s)).bind fun vs s => mkL m vs s := id rfl
end
end Tw
namespace Tw
section
variable {cl : Cl} {σ : Sv} {s : Hs}
theorem Z1t (c fid : String) (p : List Nat) (es : List Ex) : ev cl (.mk c fid p es) σ s = (evs cl es σ s).bind fun vs s => (cl true fid (p.filterMap fun i => (VV.ref s.length :: vs)[i]?) (s ++ [.obj c []])).bind fun x s1 => madeV s.length x s1 := id rfl
theorem Z1u (k : Bool) (c : String) (n : PySem.Str) (fid : String) (p : List Nat) (o : Ex) (es : List Ex) : ev cl (.meth k c n fid p o es) σ s = (ev cl o σ s).bind fun v s => (lift (isObj c n v s) s).bind fun _ s => (evs cl es σ s).bind fun vs s => cl k fid (p.filterMap fun i => (v :: vs)[i]?) s := id rfl
theorem Z1v (k : Nat) : madeV k .non s = .ok (.ref k) s := id rfl
theorem Z1w (o : Ex) (f : PySem.Str) (e : Ex) : exe cl (.setf o f e) σ s = cat σ ((ev cl e σ s).bind fun v s => (ev cl o σ s).bind fun x s => (setFld f x v s).bind fun _ s => .ok (.nx σ) s) := id rfl
theorem Z1x (o i p j e : Ex) : exe cl (.sub2 o i p j e) σ s = cat σ ((ev cl e σ s).bind fun v s => (match v with
  | .tup [a, b] => (ev cl o σ s).bind fun x s => (ev cl i σ s).bind fun y s => (setAt s x y a).bind fun _ s => (ev cl p σ s).bind fun x s => (ev cl j σ s).bind fun y s => (setAt s x y b).bind fun _ s => .ok (.nx σ) s
  | _ => .bad)) := id rfl
theorem Z1y (o i : Ex) (op : Bop) (e : Ex) : exe cl (.augs o i op e) σ s = cat σ ((ev cl o σ s).bind fun x s => (ev cl i σ s).bind fun y s => (lift ((getDV s x y).bind fun o => o) s).bind fun z s => (ev cl e σ s).bind fun u s => (augV op z u s).bind fun r s => (setK s x y r).bind fun _ s => .ok (.nx σ) s) := id rfl
theorem Z1z (o : Bop) (a b : Int) : augV o (.int a) (.int b) s = lift ((arith o a b).map VV.int) s := id rfl
theorem Z1A (k : Nat) (i v : VV) : setK s (.ref k) i v = setD s k i v := id rfl
theorem Z1B (x e : Ex) : ev cl (.lock x e) σ s = (match lckV x σ s with
  | some (k, t, kvs) => (noX (ev cl e σ (s.set k (.lck t kvs)))).bind fun v s => .ok v (s.set k (.dct t kvs))
  | none => .bad) := id rfl
theorem Z1C (x : Ex) (b : Stm) : exe cl (.lockS x b) σ s = (match lckV x σ s with
  | some (k, t, kvs) => (noX (exe cl b σ (s.set k (.lck t kvs)))).bind fun f s => unlF f (s.set k (.dct t kvs))
  | none => .bad) := id rfl
theorem Z1D : unlF (.nx σ) s = .ok (.nx σ) s := id rfl
theorem Z1E (v : VV) : unlF (.rt v) s = .ok (.rt v) s := id rfl
theorem Z1F (e : Ex) : evIt cl (.dkeyi e) σ s = (ev cl e σ s).bind fun x s => lift ((lckI s x).map fun kvs => (kvs.map (·.1), [])) s := id rfl
theorem Z1G (e : Ex) : evIt cl (.dkeys e) σ s = (ev cl e σ s).bind fun x s => lift ((lckOf s x).map fun kvs => (kvs.map (·.1), [])) s := id rfl
theorem Z1H (e : Ex) : evIt cl (.ditems e) σ s = (ev cl e σ s).bind fun x s => lift ((lckOf s x).map fun kvs => (kvs.map fun p => VV.tup [p.1, p.2], [])) s := id rfl
theorem Z1I (m t : Bool) (es : List Ex) : ev cl (.dlit m t es) σ s = (noX (evs cl es σ s)).bind fun vs s => (lift ((pairUp vs).bind fun ps => putAll t ps []) s).bind fun kvs s => mkD m t kvs s := id rfl
theorem Z1J (m : Bool) (a : Ex) : ev cl (.sst m a) σ s = (ev cl a σ s).bind fun x s => gSst m x s := id rfl
theorem Z1K (m : Bool) (a : Ex) : ev cl (.rev m a) σ s = (ev cl a σ s).bind fun x s => gRev m x s := id rfl
theorem Z1L (m : Bool) (v : VV) : biV m .sortedSum [v] s = sortSumV false m v s := id rfl
theorem Z1M (m : Bool) (i j c : Int) : biV m .lrangeD [.int i, .int j, .int c] s = (if c = -1 ∧ -(2 ^ 62) ≤ i ∧ i < 2 ^ 62 ∧ -(2 ^ 62) ≤ j ∧ j < 2 ^ 62 then mkL m ((List.range (i - j).toNat).map fun (k : Nat) => .int (i - k)) s else .bad) := id rfl
theorem Z1N (m : Bool) (v : VV) : biV m .sortedSumR [v] s = sortSumV true m v s := id rfl
theorem Z1O (m t : Bool) : ev cl (.dnew m t) σ s = mkD m t [] s := id rfl
theorem Z1P (m : Bool) (v : VV) : biV m .minLen [v] s = lift ((lstOf s v).bind fun xs => minBy s xs) s := id rfl
end
end Tw
set_option Elab.async false
set_option linter.all false
set_option autoImplicit false
set_option maxRecDepth 100000
namespace Tw
open PySem
section
variable {g : List (Nat × List VV)} {σ : Sv} {s : Hs} {α : Type}
theorem forL_ok {step : VV → Sv → Hs → Out Fl} (I : Nat → Sv → Hs → Prop) : ∀ (xs : List VV) (σ : Sv) (s : Hs) (j : Nat), I j σ s →
    (∀ i x σ s, xs[i]? = some x → I (j + i) σ s → ∃ σ' s', step x σ s = .ok (.nx σ') s' ∧ I (j + i + 1) σ' s') → ∃ σ' s', forL [] step xs σ s = .ok (.nx σ') s' ∧ I (j + xs.length) σ' s'
  | [], σ, s, j, h, _ => ⟨σ, s, rfl, h⟩
  | x :: xs, σ, s, j, h, k => by
    obtain ⟨σ1, s1, e1, h1⟩ := k 0 x σ s rfl h
    obtain ⟨σ2, s2, e2, h2⟩ := forL_ok I xs σ1 s1 (j + 1) h1 fun i y σ s hy hI => by
      have := k (i + 1) y σ s hy (by rw [show j + (i + 1) = j + 1 + i by omega]; exact hI)
      rw [show j + 1 + i + 1 = j + (i + 1) + 1 by omega]
      exact this
    refine ⟨σ2, s2, ?_, ?_⟩
    · show (if gokB s [] then (step x σ s).bind _ else _) = _
      rw [gokB_nil, if_pos rfl, e1]
      exact e2
    · rw [List.length_cons, show j + (xs.length + 1) = j + 1 + xs.length by omega]
      exact h2
theorem compL_red {step : VV → Hs → Out (Option VV)} {x : VV} {xs : List VV} (hg : gokB s g = true) : compL g step (x :: xs) s = (step x s).bind fun o s => (compL g step xs s).bind fun r s => .ok (o.toList ++ r) s := by
  show (if gokB s g then _ else _) = _
  rw [if_pos hg]
theorem compL_end {step : VV → Hs → Out (Option VV)} (hg : gokB s g = true) : compL g step [] s = .ok [] s := if_pos hg
theorem compL_fm {step : VV → Hs → Out (Option VV)} (hg : gokB s g = true) {φ : α → VV} {p : α → Bool} {ψ : α → VV} : ∀ {l : List α}, (∀ a ∈ l, step (φ a) s = .ok (if p a then some (ψ a) else none) s) →
    compL g step (l.map φ) s = .ok ((l.filter p).map ψ) s
  | [], _ => compL_end hg
  | a :: l, h => by
    rw [List.map_cons, compL_red hg, h a List.mem_cons_self]
    simp only [Out.bind_ok]
    rw [compL_fm hg fun b hb => h b (List.mem_cons_of_mem _ hb)]
    cases hp : p a with
    | true => simp [hp, Out.bind_ok]
    | false => simp [hp, Out.bind_ok]
theorem compL_map {step : VV → Hs → Out (Option VV)} (hg : gokB s g = true) {φ : α → VV} {ψ : α → VV} {l : List α} (h : ∀ a ∈ l, step (φ a) s = .ok (some (ψ a)) s) : compL g step (l.map φ) s = .ok (l.map ψ) s := by
  have := compL_fm (g := g) (step := step) (s := s) hg (φ := φ) (p := fun _ => true) (ψ := ψ) (l := l) fun a ha => by rw [if_pos rfl]; exact h a ha
  rw [this, List.filter_eq_self.mpr fun _ _ => rfl]
theorem compL_ok {step : VV → Hs → Out (Option VV)} (I : Nat → List VV → Hs → Prop) : ∀ (xs : List VV) (acc : List VV) (s : Hs) (j : Nat), I j acc s →
    (∀ i x acc s, xs[i]? = some x → I (j + i) acc s → ∃ o s', step x s = .ok o s' ∧ I (j + i + 1) (acc ++ o.toList) s') → ∃ rs s', compL [] step xs s = .ok rs s' ∧ I (j + xs.length) (acc ++ rs) s'
  | [], acc, s, j, h, _ => ⟨[], s, rfl, by simpa using h⟩
  | x :: xs, acc, s, j, h, k => by
    obtain ⟨o, s1, e1, h1⟩ := k 0 x acc s rfl h
    obtain ⟨rs, s2, e2, h2⟩ := compL_ok I xs (acc ++ o.toList) s1 (j + 1) h1 fun i y acc s hy hI => by
      have := k (i + 1) y acc s hy (by rw [show j + (i + 1) = j + 1 + i by omega]; exact hI)
      rw [show j + 1 + i + 1 = j + (i + 1) + 1 by omega]
      exact this
    refine ⟨o.toList ++ rs, s2, ?_, ?_⟩
    · rw [compL_red rfl, e1]
      simp only [Out.bind_ok]
      rw [e2]
      rfl
    · rw [List.length_cons, show j + (xs.length + 1) = j + 1 + xs.length by omega, ← List.append_assoc]
      exact h2
end
theorem range_at {n i : Nat} {x : VV} (h : ((List.range n).map fun (i : Nat) => VV.int i)[i]? = some x) : i < n ∧ x = .int i := by
  rw [List.getElem?_map] at h
  obtain ⟨j, hj, rfl⟩ := Option.map_eq_some_iff.mp h
  obtain ⟨hl, e⟩ := List.getElem?_eq_some_iff.mp hj
  rw [List.length_range] at hl
  rw [List.getElem_range] at e
  subst e
  exact ⟨hl, rfl⟩
theorem map_at {α : Type} {f : α → VV} {l : List α} {i : Nat} {x : VV} (h : (l.map f)[i]? = some x) : ∃ a, l[i]? = some a ∧ x = f a := by
  rw [List.getElem?_map] at h
  obtain ⟨a, ha, rfl⟩ := Option.map_eq_some_iff.mp h
  exact ⟨a, ha, rfl⟩
theorem rng_nat {n : Nat} {s : Hs} (h : (n : Int) < 2 ^ 62) : gRange [.int n] s = .ok ((List.range n).map fun (i : Nat) => VV.int i, []) s := by
  have e : gRange [.int n] s = (if -(2 ^ 62) ≤ (n : Int) ∧ (n : Int) < 2 ^ 62 then .ok ((List.range (n : Int).toNat).map fun (i : Nat) => VV.int i, []) s else .bad) := id rfl
  rw [e, if_pos ⟨by omega, h⟩, Int.toNat_natCast]
def sq (b : Bool) (xs : List VV) : VV := if b then .tup xs else .lst xs
section
variable {b : Bool} {xs : List VV} {s : Hs} {σ : Sv}
theorem Z1Q : sq true xs = .tup xs := id rfl
theorem Z1R : sq false xs = .lst xs := id rfl
theorem Z1S : seqOf s (sq b xs) = some xs := by cases b <;> rfl
theorem Z1T : srcOf s (sq b xs) = some (xs, []) := by cases b <;> rfl
theorem Z1U (m : Bool) : biV m .len [sq b xs] s = .ok (.int xs.length) s := by cases b <;> rfl
theorem Z1V (m : Bool) : biV m .tuple [sq b xs] s = mkT xs s := by cases b <;> rfl
theorem Z1W (m : Bool) : biV m .list [sq b xs] s = mkL m xs s := by cases b <;> rfl
theorem Z1X (ts : List Tg) : asg (.tup ts) (sq b xs) σ = asgs ts xs σ := by cases b <;> rfl
theorem Z1Y : pur (sq b xs) = purs xs := by cases b <;> simp [sq, pur]
theorem Z1Z : srcOf s (.tup xs) = some (xs, []) := id rfl
theorem Z20 : srcOf s (.lst xs) = some (xs, []) := id rfl
end
theorem purs_all : ∀ {l : List VV}, purs l = true ↔ ∀ x ∈ l, pur x = true
  | [] => by simp [purs]
  | a :: l => by simp [purs, purs_all (l := l)]
theorem fin_same {keep : Bool} {v : VV} {s : Hs} (hv : pur v = true) : fin keep s v s = .ok v s := by
  unfold fin
  cases keep with
  | true => rfl
  | false => rw [if_neg (by decide), if_pos ⟨Nat.le_refl _, fun j _ => .inl rfl⟩, if_pos hv, List.take_length]
theorem fin_drop {v : VV} {s g : Hs} (hv : pur v = true) : fin false s v (s ++ g) = .ok v s := by
  unfold fin
  rw [if_neg (by decide), if_pos ⟨by simp, fun j hj => .inl (by rw [List.getElem?_append_left hj])⟩, if_pos hv, List.take_append_of_le_length (Nat.le_refl _), List.take_length]
end Tw
set_option Elab.async false
set_option linter.all false
set_option autoImplicit false
set_option maxRecDepth 100000
namespace Tw
def fn__law_take : Fn := ⟨2, 4, [.ife (.cmp .gt (.idx (.var 0) (.lit (.int 0))) (.lit (.int 0))) [.asg (.var 2) (.bin false .mod (.idx (.var 0) (.lit (.int 0))) (.var 1)), .sub (.var 0) (.lit (.int 0)) (.bin false .fdiv (.idx (.var 0) (.lit (.int 0))) (.var 1)), .ret (.var 2)] [], .sub (.var 0) (.lit (.int 2)) (.bin false .add (.idx (.var 0) (.lit (.int 2))) (.lit (.int 1))), .asg (.var 3) (.bin false .mod (.bin false .add (.idx (.var 0) (.lit (.int 1))) (.bin false .mul (.lit (.int 1442695040888963407)) (.idx (.var 0) (.lit (.int 2))))) (.lit (.int 2305843009213693951))), .asg (.var 3) (.bin false .mod (.bin false .add (.bin false .add (.bin false .mul (.var 3) (.var 3)) (.bin false .mul (.lit (.int 39373)) (.idx (.var 0) (.lit (.int 2))))) (.lit (.int 7))) (.lit (.int 2305843009213693921))), .asg (.var 3) (.bin false .mod (.bin false .add (.bin false .mul (.var 3) (.bin false .add (.bin false .fdiv (.var 3) (.lit (.int 65536))) (.lit (.int 3)))) (.idx (.var 0) (.lit (.int 2)))) (.lit (.int 2305843009213693907))), .ret (.bin false .mod (.bin false .fdiv (.var 3) (.lit (.int 1048576))) (.var 1))]⟩
structure Bx where
  a : Int
  x : Int
  c : Int
  h : 0 ≤ a
def Bx.ob (b : Bx) : Ob := .lst [.int b.a, .int b.x, .int b.c]
def St (s : Hs) (k : Nat) (b : Bx) (ex : Hs) : Hs := s.set k b.ob ++ ex
section
variable {s ex : Hs} {k : Nat} {b b' : Bx}
theorem St.at (h : k < s.length) : (St s k b ex)[k]? = some b.ob := by
  unfold St
  rw [List.getElem?_append_left (by simpa using h), List.getElem?_set_self h]
theorem St.kid (h : k < s.length) : kid (St s k b ex) k = some [.int b.a, .int b.x, .int b.c] := kid_of (St.at h)
theorem St.put (h : k < s.length) : (St s k b ex).set k b'.ob = St s k b' ex := by
  unfold St
  rw [List.set_append_left _ _ (by simpa using h), List.set_set]
theorem St.stays (h : k < s.length) (g : Hs) : Stays (St s k b ex) (St s k b' (ex ++ g)) := by
  refine ⟨by simp [St], fun j hj => ?_⟩
  have e : St s k b' (ex ++ g) = St s k b' ex ++ g := by simp [St]
  rw [e]
  by_cases hk : j = k
  · subst hk
    exact .inr ⟨_, by rw [List.getElem?_append_left (by simp [St]; omega), St.at h]; rfl, rfl⟩
  · refine .inl ?_
    rw [List.getElem?_append_left (by simpa [St] using hj)]
    unfold St
    by_cases hl : j < s.length
    · rw [List.getElem?_append_left (by simpa using hl), List.getElem?_append_left (by simpa using hl), List.getElem?_set_ne (Ne.symm hk), List.getElem?_set_ne (Ne.symm hk)]
    · rw [List.getElem?_append_right (by simp; omega), List.getElem?_append_right (by simp; omega)]
      simp
theorem St.take (g : Hs) : (St s k b' (ex ++ g)).take (St s k b ex).length = St s k b' ex := by
  have e : St s k b' (ex ++ g) = St s k b' ex ++ g := by simp [St]
  rw [e, List.take_append_of_le_length (by simp [St])]
  rw [List.take_of_length_le (by simp [St])]
theorem fin_box {keep : Bool} {v : VV} (h : k < s.length) (hv : pur v = true) : fin keep (St s k b ex) v (St s k b' ex) = .ok v (St s k b' ex) := by
  unfold fin
  cases keep with
  | true => rfl
  | false =>
    have h1 := St.stays (b := b) (b' := b') (ex := ex) h []
    have h2 := St.take (s := s) (k := k) (b := b) (b' := b') (ex := ex) []
    rw [List.append_nil] at h1 h2
    rw [if_neg (by decide), if_pos h1, if_pos hv, h2]
def lo64 (m : Int) : Prop := 0 < m ∧ m < 2 ^ 64
theorem St.sa0 (h : k < s.length) (v : VV) : setAt (St s k b ex) (.ref k) (.int 0) v = .ok () ((St s k b ex).set k (.lst [v, .int b.x, .int b.c])) := set_of (n := 0) (St.kid h) rfl
theorem St.sa2 (h : k < s.length) (v : VV) : setAt (St s k b ex) (.ref k) (.int 2) v = .ok () ((St s k b ex).set k (.lst [.int b.a, .int b.x, v])) := set_of (n := 2) (St.kid h) rfl
theorem draw_t {P : Pg} (hT : P "_law_take" = some fn__law_take) (n : Nat) (keep : Bool) (hk : k < s.length) (m : Int) (hm : lo64 m) : ∃ (r : Int) (b' : Bx), 0 ≤ r ∧ r < m ∧ callF P (n + 1) keep "_law_take" [.ref k, .int m] (St s k b ex) = .ok (.int r) (St s k b' ex) := by
  have kd := St.kid (b := b) (ex := ex) hk
  obtain ⟨m1, m2⟩ := hm
  by_cases ha : 0 < b.a
  · refine ⟨b.a % m, ⟨b.a / m, b.x, b.c, Int.ediv_nonneg b.h (by omega)⟩, Int.emod_nonneg _ (by omega), Int.emod_lt_of_pos _ m1, ?_⟩
    rw [callF_run hT rfl]
    have e1 : (St s k b ex).set k (.lst [.int (b.a / m), .int b.x, .int b.c]) = St s k ⟨b.a / m, b.x, b.c, Int.ediv_nonneg b.h (by omega)⟩ ex := St.put (b' := ⟨b.a / m, b.x, b.c, Int.ediv_nonneg b.h (by omega)⟩) hk
    simp only [fn__law_take, Z0, Z1, Z2, Z3, Z4, Z5, Z6, Z7, Z8, Z9, Za, Zb, Zd, Ze, Zf, Zg, Zh, Zi, Zj, Zk, Zl, Zm, Zn, Zo, Zp, Zq, Zr, Zs, Zt, Zu, Zv, Zw, Zx, Zy, Zz, ZA, ZB, ZC, ZD, ZE, ZF, ZG, ZH, ZI, ZJ, ZK, ZL, ZM, ZN, ZO, ZP, ZQ, ZR, ZS, ZT, ZU, ZV, ZW, ZX, ZY, ZZ, Z00, Z01, Z02, Z03, Z04, Z05, Z06, Z07, Z08, Z09, Z0a, Z0b, Z0c, Z0d, Z0e, Z0f, Z0g, Z0h, Z0i, Z0j, Z0k, Z0l, Z0m, Z0n, Z0o, Z0p, Z0q, Z0r, Z0s, Z0t, Z0u, Z0v, Z0w, Z0x, Z0y, Z0z, Z0A, Z0B, Z0C, Z0D, Z0E, Z0F, Z0G, Z0H, Z0I, Z0J, Z0K, Z0L, Z0M, Z0N, Z0O, Z0P, Z0Q, Z0R, Z0S, Z0T, Z0U, Z0V, Z0W, Z0X, Z0Y, Z0Z, Z10, Z11, Z12, Z13, Z14, Z15, Z16, Z17, Z18, Z19, Z1a, Z1b, Z1c, Z1d, Z1e, Z1f, Z1g, Z1h, Z1i, Z1j, Z1k, Z1l, Z1m, Z1n, Z1o, Z1p, Z1q, Z1r, Z1s, Z1t, Z1u, Z1v, Z1w, Z1x, Z1y, Z1z, Z1A, Z1B, Z1C, Z1D, Z1E, Z1F, Z1G, Z1H, Z1I, Z1J, Z1K, Z1L, Z1M, Z1N, Z1O, Z1P, Z1Q, Z1R, Z1S, Z1T, Z1U, Z1V, Z1W, Z1X, Z1Y, Z1Z, Z20, List.map_cons, List.map_nil, List.replicate, List.cons_append, List.nil_append, Nat.reduceSub, kd, ha, decide_true, if_true, ar_mod _ _ m1, ar_fdiv _ _ m1 m2, Option.map_some, St.sa0 hk, e1]
    exact fin_box hk rfl
  · have e1 : (St s k b ex).set k (.lst [.int b.a, .int b.x, .int (b.c + 1)]) = St s k ⟨b.a, b.x, b.c + 1, b.h⟩ ex := St.put (b' := ⟨b.a, b.x, b.c + 1, b.h⟩) hk
    have kd2 := St.kid (b := ⟨b.a, b.x, b.c + 1, b.h⟩) (ex := ex) hk
    generalize hd : b.c + 1 = c at *
    generalize h1 : (b.x + 1442695040888963407 * c) % 2305843009213693951 = t1
    have t1a : 0 ≤ t1 ∧ t1 < 2305843009213693951 := by rw [← h1]; exact ⟨Int.emod_nonneg _ (by decide), Int.emod_lt_of_pos _ (by decide)⟩
    generalize h2 : (t1 * t1 + 39373 * c + 7) % 2305843009213693921 = t2
    have t2a : 0 ≤ t2 ∧ t2 < 2305843009213693921 := by rw [← h2]; exact ⟨Int.emod_nonneg _ (by decide), Int.emod_lt_of_pos _ (by decide)⟩
    generalize h3 : (t2 * (t2 / 65536 + 3) + c) % 2305843009213693907 = t3
    refine ⟨t3 / 1048576 % m, ⟨b.a, b.x, c, b.h⟩, Int.emod_nonneg _ (by omega), Int.emod_lt_of_pos _ m1, ?_⟩
    rw [callF_run hT rfl]
    have s1 : small t1 = true := small_of (by omega) (by omega)
    have s2 : small t2 = true := small_of (by omega) (by omega)
    simp only [fn__law_take, Z0, Z1, Z2, Z3, Z4, Z5, Z6, Z7, Z8, Z9, Za, Zb, Zd, Ze, Zf, Zg, Zh, Zi, Zj, Zk, Zl, Zm, Zn, Zo, Zp, Zq, Zr, Zs, Zt, Zu, Zv, Zw, Zx, Zy, Zz, ZA, ZB, ZC, ZD, ZE, ZF, ZG, ZH, ZI, ZJ, ZK, ZL, ZM, ZN, ZO, ZP, ZQ, ZR, ZS, ZT, ZU, ZV, ZW, ZX, ZY, ZZ, Z00, Z01, Z02, Z03, Z04, Z05, Z06, Z07, Z08, Z09, Z0a, Z0b, Z0c, Z0d, Z0e, Z0f, Z0g, Z0h, Z0i, Z0j, Z0k, Z0l, Z0m, Z0n, Z0o, Z0p, Z0q, Z0r, Z0s, Z0t, Z0u, Z0v, Z0w, Z0x, Z0y, Z0z, Z0A, Z0B, Z0C, Z0D, Z0E, Z0F, Z0G, Z0H, Z0I, Z0J, Z0K, Z0L, Z0M, Z0N, Z0O, Z0P, Z0Q, Z0R, Z0S, Z0T, Z0U, Z0V, Z0W, Z0X, Z0Y, Z0Z, Z10, Z11, Z12, Z13, Z14, Z15, Z16, Z17, Z18, Z19, Z1a, Z1b, Z1c, Z1d, Z1e, Z1f, Z1g, Z1h, Z1i, Z1j, Z1k, Z1l, Z1m, Z1n, Z1o, Z1p, Z1q, Z1r, Z1s, Z1t, Z1u, Z1v, Z1w, Z1x, Z1y, Z1z, Z1A, Z1B, Z1C, Z1D, Z1E, Z1F, Z1G, Z1H, Z1I, Z1J, Z1K, Z1L, Z1M, Z1N, Z1O, Z1P, Z1Q, Z1R, Z1S, Z1T, Z1U, Z1V, Z1W, Z1X, Z1Y, Z1Z, Z20, List.map_cons, List.map_nil, List.replicate, List.cons_append, List.nil_append, Nat.reduceSub, kd, ha, decide_false, Bool.false_eq_true, if_false, ar_mod _ _ m1, ar_fdiv _ _ m1 m2, Option.map_some, St.sa2 hk, hd, e1, kd2,
      ar_mulL 1442695040888963407 _ (by decide), ar_mulL 39373 _ (by decide), ar_mod _ 2305843009213693951 (by decide), ar_mod _ 2305843009213693921 (by decide), ar_mod _ 2305843009213693907 (by decide), h1, ar_mulL t1 _ s1, h2, ar_mulL t2 _ s2, ar_fdiv _ 65536 (by decide) (by decide), ar_fdiv _ 1048576 (by decide) (by decide), h3]
    exact fin_box hk rfl
end
end Tw
set_option linter.all false
set_option autoImplicit false
namespace Tw
abbrev Rope := Nat × Nat × Int
structure Sea where
  n : Nat
  ropes : List Rope
def rlt (a b : Rope) : Prop := a.1 < b.1 ∨ (a.1 = b.1 ∧ a.2.1 < b.2.1)
structure Sea.Ok (F : Sea) : Prop where
  pos : 0 < F.n
  few : F.n ≤ 64
  lt1 : ∀ r ∈ F.ropes, r.1 < F.n
  lt2 : ∀ r ∈ F.ropes, r.2.1 < F.n
  ne : ∀ r ∈ F.ropes, r.1 ≠ r.2.1
  nn : ∀ r ∈ F.ropes, 0 ≤ r.2.2
  len : F.ropes.length ≤ 4096
  uniq : ∀ r ∈ F.ropes, ∀ q ∈ F.ropes, r.1 = q.1 → r.2.1 = q.2.1 → r = q
  ris : F.ropes.Pairwise rlt
abbrev Mk := Nat → Int
def Stand (F : Sea) (t : Mk) : Prop := ∀ r ∈ F.ropes, t r.1 - r.2.2 ≤ t r.2.1
def Below (n : Nat) (t u : Mk) : Prop := ∀ i, i < n → t i ≤ u i
structure IsMoor (F : Sea) (m L : Mk) : Prop where
  st : Stand F L
  up : Below F.n m L
  least : ∀ t, Stand F t → Below F.n m t → Below F.n L t
theorem IsMoor.uniq {F : Sea} {m L L' : Mk} (h : IsMoor F m L) (h' : IsMoor F m L') : ∀ i, i < F.n → L i = L' i := fun i hi =>
  Int.le_antisymm (h.least L' h'.st h'.up i hi) (h'.least L h.st h.up i hi)
theorem IsMoor.self {F : Sea} {m : Mk} (h : Stand F m) : IsMoor F m m := ⟨h, fun _ _ => Int.le_refl _, fun _ _ u => u⟩
abbrev Tab := Nat → Nat → Option Int
structure IsLead (F : Sea) (D : Tab) : Prop where
  diag : ∀ i, i < F.n → D i i = some 0
  edge : ∀ r ∈ F.ropes, ∃ d, D r.1 r.2.1 = some d ∧ d ≤ r.2.2
  tri : ∀ k, k < F.n → ∀ i j a b, i < F.n → j < F.n → D i k = some a → D k j = some b → ∃ d, D i j = some d ∧ d ≤ a + b
  sound : ∀ i j d, i < F.n → j < F.n → D i j = some d → ∀ t, Stand F t → t i - d ≤ t j
def via (k : Nat) (M : Tab) : Tab := fun i j => match M i k, M k j with
  | some a, some b => (match M i j with
    | none => some (a + b)
    | some c => if a + b < c then some (a + b) else some c)
  | _, _ => M i j
structure Half (F : Sea) (k : Nat) (M : Tab) : Prop where
  diag : ∀ i, i < F.n → M i i = some 0
  edge : ∀ r ∈ F.ropes, ∃ d, M r.1 r.2.1 = some d ∧ d ≤ r.2.2
  sound : ∀ i j d, i < F.n → j < F.n → M i j = some d → ∀ t, Stand F t → t i - d ≤ t j
  tri : ∀ m, m < k → m < F.n → ∀ i j a b, i < F.n → j < F.n → M i m = some a → M m j = some b → ∃ d, M i j = some d ∧ d ≤ a + b
theorem flat {F : Sea} (ok : F.Ok) : Stand F fun _ => 0 := fun r hr => by
  have := ok.nn r hr
  show (0 : Int) - r.2.2 ≤ 0
  omega
theorem Half.nn {F : Sea} {k : Nat} {M : Tab} (ok : F.Ok) (h : Half F k M) {i j : Nat} {d : Int} (hi : i < F.n) (hj : j < F.n) (e : M i j = some d) : 0 ≤ d := by
  have := h.sound i j d hi hj e _ (flat ok)
  have : (0 : Int) - d ≤ 0 := this
  omega
theorem via_le {k : Nat} {M : Tab} {i j : Nat} {c : Int} (e : M i j = some c) : ∃ d, via k M i j = some d ∧ d ≤ c := by
  unfold via
  split
  · rw [e]
    dsimp only
    split
    · exact ⟨_, rfl, by omega⟩
    · exact ⟨_, rfl, Int.le_refl _⟩
  · exact ⟨c, e, Int.le_refl _⟩
theorem via_sum {k : Nat} {M : Tab} {i j : Nat} {a b : Int} (e1 : M i k = some a) (e2 : M k j = some b) : ∃ d, via k M i j = some d ∧ d ≤ a + b := by
  unfold via
  rw [e1, e2]
  dsimp only
  split
  · exact ⟨_, rfl, Int.le_refl _⟩
  · split
    · exact ⟨_, rfl, Int.le_refl _⟩
    · exact ⟨_, rfl, by omega⟩
theorem via_cases {k : Nat} {M : Tab} {i j : Nat} {d : Int} (e : via k M i j = some d) : M i j = some d ∨ ∃ a b, M i k = some a ∧ M k j = some b ∧ d = a + b := by
  unfold via at e
  split at e
  · rename_i a b h1 h2
    split at e
    · cases e
      exact .inr ⟨a, b, h1, h2, rfl⟩
    · rename_i c h3
      split at e
      · cases e
        exact .inr ⟨a, b, h1, h2, rfl⟩
      · cases e
        exact .inl h3
  · exact .inl e
theorem via_col {F : Sea} {k k' : Nat} {M : Tab} (ok : F.Ok) (h : Half F k' M) (hk : k < F.n) {i : Nat} (hi : i < F.n) : via k M i k = M i k := by
  unfold via
  rw [h.diag k hk]
  split
  · rename_i a b h1 h2
    cases h2
    rw [h1]
    dsimp only
    rw [if_neg (by omega)]
  · rfl
theorem via_row {F : Sea} {k k' : Nat} {M : Tab} (ok : F.Ok) (h : Half F k' M) (hk : k < F.n) {j : Nat} (hj : j < F.n) : via k M k j = M k j := by
  unfold via
  rw [h.diag k hk]
  split
  · rename_i a b h1 h2
    cases h1
    rw [h2]
    dsimp only
    rw [if_neg (by omega)]
  · rfl
theorem Half.next {F : Sea} {k : Nat} {M : Tab} (ok : F.Ok) (h : Half F k M) (hk : k < F.n) : Half F (k + 1) (via k M) := by
  refine ⟨fun i hi => ?_, fun r hr => ?_, fun i j d hi hj e t st => ?_, fun m hm hmn i j a b hi hj e1 e2 => ?_⟩
  · obtain ⟨d, e, l⟩ := via_le (k := k) (h.diag i hi)
    rcases via_cases e with q | ⟨a, b, q1, q2, rfl⟩
    · rw [e, ← q]
      exact h.diag i hi
    · have n1 := h.nn ok hi hk q1
      have n2 := h.nn ok hk hi q2
      rw [e]
      congr 1
      omega
  · obtain ⟨c, e, l⟩ := h.edge r hr
    obtain ⟨d, e2, l2⟩ := via_le (k := k) e
    exact ⟨d, e2, by omega⟩
  · rcases via_cases e with q | ⟨a, b, q1, q2, rfl⟩
    · exact h.sound i j d hi hj q t st
    · have s1 := h.sound i k a hi hk q1 t st
      have s2 := h.sound k j b hk hj q2 t st
      omega
  · by_cases hmk : m = k
    · subst hmk
      rw [via_col ok h hk hi] at e1
      rw [via_row ok h hk hj] at e2
      exact via_sum e1 e2
    · have hm : m < k := by omega
      rcases via_cases e1 with q | ⟨a1, a2, q1, q2, rfl⟩ <;> rcases via_cases e2 with p | ⟨b1, b2, p1, p2, rfl⟩
      · obtain ⟨d, e, l⟩ := h.tri m hm hmn i j a b hi hj q p
        obtain ⟨d2, e2, l2⟩ := via_le (k := k) e
        exact ⟨d2, e2, by omega⟩
      · obtain ⟨d, e, l⟩ := h.tri m hm hmn i k a b1 hi hk q p1
        obtain ⟨d2, e2, l2⟩ := via_sum e p2
        exact ⟨d2, e2, by omega⟩
      · obtain ⟨d, e, l⟩ := h.tri m hm hmn k j a2 b hk hj q2 p
        obtain ⟨d2, e2, l2⟩ := via_sum q1 e
        exact ⟨d2, e2, by omega⟩
      · have n1 := h.nn ok hk hmn q2
        have n2 := h.nn ok hmn hk p1
        obtain ⟨d2, e2, l2⟩ := via_sum q1 p2
        exact ⟨d2, e2, by omega⟩
theorem Half.whole {F : Sea} {M : Tab} (h : Half F F.n M) : IsLead F M := ⟨h.diag, h.edge, fun k hk => h.tri k hk hk, h.sound⟩
def first (F : Sea) : Tab := fun i j => if i = j then some 0 else (F.ropes.find? fun r => r.1 == i && r.2.1 == j).map (·.2.2)
theorem Half.first {F : Sea} (ok : F.Ok) : Half F 0 (first F) := by
  refine ⟨fun i hi => if_pos rfl, fun r hr => ?_, fun i j d hi hj e t st => ?_, fun m hm => by omega⟩
  · unfold Tw.first
    rw [if_neg (ok.ne r hr)]
    cases e : F.ropes.find? fun q => q.1 == r.1 && q.2.1 == r.2.1 with
    | none =>
      have := List.find?_eq_none.mp e r hr
      simp at this
    | some q =>
      have h1 := List.find?_some e
      have h2 := List.mem_of_find?_eq_some e
      simp only [Bool.and_eq_true, beq_iff_eq] at h1
      have := ok.uniq q h2 r hr h1.1 h1.2
      subst this
      exact ⟨_, rfl, Int.le_refl _⟩
  · unfold Tw.first at e
    split at e
    · rename_i hij
      subst hij
      cases e
      omega
    · obtain ⟨q, hq, rfl⟩ := Option.map_eq_some_iff.mp e
      have h1 := List.find?_some hq
      have h2 := List.mem_of_find?_eq_some hq
      simp only [Bool.and_eq_true, beq_iff_eq] at h1
      have := st q h2
      rw [h1.1, h1.2] at this
      exact this
def left (L f : Mk) : Nat → Nat
  | 0 => 0
  | n + 1 => left L f n + if f n = L n then 0 else 1
end Tw
set_option Elab.async false
set_option linter.all false
set_option autoImplicit false
set_option maxRecDepth 100000
namespace Tw
theorem bm_app {s : Hs} {k : Nat} {xs : List VV} {x : VV} (h : kid s k = some xs) (hl : xs.length < szL) : bmV .append (.ref k) [x] s = .ok .non (s.set k (.lst (xs ++ [x]))) := by
  show (match kid s k with
    | some xs => if xs.length < szL then Out.ok VV.non (s.set k (.lst (xs ++ [x]))) else .bad
    | none => .bad) = _
  rw [h]
  exact if_pos hl
theorem bm_ty {s : Hs} {k : Nat} {xs : List VV} (h : kid s k = some xs) : bmTy .append (.ref k) s = some () := by
  show (kid s k).map _ = _
  rw [h]
  rfl
section
variable {s ex : Hs} {k : Nat} {b : Bx}
theorem St.len : (St s k b ex).length = s.length + ex.length := by simp [St]
end
structure Part (n : Nat) (top : Int) (l : List Rope) : Prop where
  lt1 : ∀ r ∈ l, r.1 < n
  lt2 : ∀ r ∈ l, r.2.1 < n
  ne : ∀ r ∈ l, r.1 ≠ r.2.1
  nn : ∀ r ∈ l, 0 ≤ r.2.2 ∧ r.2.2 < top
  uniq : ∀ r ∈ l, ∀ q ∈ l, r.1 = q.1 → r.2.1 = q.2.1 → r = q
  ris : l.Pairwise rlt
theorem Part.nil {n : Nat} {top : Int} : Part n top [] := ⟨by simp, by simp, by simp, by simp, by simp, List.Pairwise.nil⟩
theorem Part.add {n : Nat} {top : Int} {l : List Rope} (h : Part n top l) {r : Rope} (h1 : r.1 < n) (h2 : r.2.1 < n) (h3 : r.1 ≠ r.2.1) (h4 : 0 ≤ r.2.2 ∧ r.2.2 < top) (h6 : ∀ q ∈ l, rlt q r) : Part n top (l ++ [r]) := by
  have h5 : ∀ q ∈ l, q.1 = r.1 → q.2.1 = r.2.1 → False := fun q hq a b => by
    rcases h6 q hq with z | ⟨_, z⟩ <;> omega
  have mem : ∀ {p : Rope → Prop}, (∀ q ∈ l, p q) → p r → ∀ q ∈ l ++ [r], p q := fun {p} a b q hq => by
    rcases List.mem_append.mp hq with hq | hq
    · exact a q hq
    · rw [List.mem_singleton.mp hq]; exact b
  refine ⟨mem h.lt1 h1, mem h.lt2 h2, mem h.ne h3, mem h.nn h4, mem (fun q hq => mem (h.uniq q hq) fun a b => (h5 q hq a b).elim) (mem (fun q hq a b => (h5 q hq a.symm b.symm).elim) fun _ _ => rfl), List.pairwise_append.mpr ⟨h.ris, List.pairwise_singleton _ _, fun a ha b hb => by rw [List.mem_singleton.mp hb]; exact h6 a ha⟩⟩
end Tw
set_option Elab.async false
set_option linter.all false
set_option autoImplicit false
set_option maxRecDepth 100000
namespace Tw
def optV : Option Int → VV
  | none => .non
  | some d => .int d
theorem Z21 : optV none = .non := id rfl
theorem Z22 (d : Int) : optV (some d) = .int d := id rfl
theorem mapO_map {α : Type} {f : VV → Option VV} {φ ψ : α → VV} : ∀ {l : List α}, (∀ a ∈ l, f (φ a) = some (ψ a)) → mapO f (l.map φ) = some (l.map ψ)
  | [], _ => rfl
  | a :: l, h => by
    rw [List.map_cons, List.map_cons]
    unfold mapO
    rw [h a List.mem_cons_self, mapO_map fun b hb => h b (List.mem_cons_of_mem _ hb)]
theorem frz_ref {n lim k : Nat} {s : Hs} {xs ys : List VV} (h : lim ≤ k) (e : s[k]? = some (.lst xs)) (m : mapO (frz n lim s) xs = some ys) : frz (n + 1) lim s (.ref k) = some (.lst ys) := by
  show (if k < lim then some (VV.ref k) else match s[k]? with
    | some (.lst xs) => (mapO (frz n lim s) xs).map .lst
    | some (.dct t kvs) => (mapO (fun p => (frz n lim s p.2).map fun v => (p.1, v)) kvs).map (.dct t)
    | _ => none) = _
  rw [if_neg (by omega), e]
  dsimp only
  rw [m]
  rfl
theorem fin_frz {v y : VV} {s g : Hs} (hv : pur v = false) (h : frz 6 s.length (s ++ g) v = some y) : fin false s v (s ++ g) = .ok y s := by
  unfold fin
  rw [if_neg (by decide), if_pos ⟨by simp, fun j hj => .inl (by rw [List.getElem?_append_left hj])⟩, if_neg (by rw [hv]; decide), h]
  dsimp only
  rw [List.take_append_of_le_length (Nat.le_refl _), List.take_length]
section
variable {s : Hs} {n i j : Nat} {M M' : Tab}
end
section
variable {P : Pg} {F : Sea} {s : Hs} {b : Bool}
end
end Tw
set_option Elab.async false
set_option linter.all false
set_option autoImplicit false
set_option maxRecDepth 100000
namespace Tw
end Tw
set_option Elab.async false
set_option linter.all false
set_option autoImplicit false
set_option maxRecDepth 100000
namespace Tw
theorem frz_all {lim : Nat} {s : Hs} : ∀ (n : Nat) (v : VV), pur v = true → frz n lim s v = some v
  | 0, v, h => by cases v <;> exact if_pos h
  | n + 1, v, h => by
    have all : ∀ xs : List VV, purs xs = true → mapO (frz n lim s) xs = some xs := fun xs hx => by
      have := mapO_map (f := frz n lim s) (φ := id) (ψ := id) (l := xs) fun a ha => frz_all n a (purs_all.mp hx a ha)
      rw [List.map_id] at this
      exact this
    cases v with
    | tup xs =>
      show (mapO (frz n lim s) xs).map VV.tup = _
      rw [all xs (by simpa [pur] using h)]
      rfl
    | lst xs =>
      show (mapO (frz n lim s) xs).map VV.lst = _
      rw [all xs (by simpa [pur] using h)]
      rfl
    | ref k => cases h
    | dct t kvs =>
      have hk : ∀ l : List (VV × VV), purp l = true → mapO (fun p : VV × VV => (frz n lim s p.2).map fun v => (p.1, v)) l = some l := by
        intro l
        induction l with
        | nil => intro _; rfl
        | cons p l ih =>
          intro hl
          obtain ⟨a, b⟩ := p
          simp only [purp, purq, Bool.and_eq_true] at hl
          unfold mapO
          rw [frz_all n b hl.1.2, ih hl.2]
          rfl
      show (mapO (fun p : VV × VV => (frz n lim s p.2).map fun v => (p.1, v)) kvs).map (VV.dct t) = _
      rw [hk kvs (by simpa [pur] using h)]
      rfl
    | _ => exact if_pos h
abbrev mks (n : Nat) (m : Mk) : List VV := (List.range n).map fun i => VV.int (m i)
section
variable {P : Pg} {F : Sea} {s : Hs} {b : Bool} {m : Mk} {v : VV}
end
end Tw
set_option Elab.async false
set_option linter.all false
set_option autoImplicit false
set_option maxRecDepth 100000
namespace Tw
section
variable {P : Pg} {F : Sea} {s : Hs} {b c : Bool} {m : Mk} {v : VV}
theorem Z23 (d : Bool) (ts : List Ty) (i : Int) : biV d (.isinst ts) [.int i] s = .ok (.bl (ts.any (isTy s (.int i)))) s := id rfl
theorem Z24 (d : Bool) (ts : List Ty) (xs : List VV) : biV d (.isinst ts) [.tup xs] s = .ok (.bl (ts.any (isTy s (.tup xs)))) s := id rfl
theorem Z25 (d : Bool) (ts : List Ty) (xs : List VV) : biV d (.isinst ts) [.lst xs] s = .ok (.bl (ts.any (isTy s (.lst xs)))) s := id rfl
theorem Z26 (i : Int) : isTy s (.int i) .int = true := id rfl
theorem Z27 (i : Int) : isTy s (.int i) .bool = false := id rfl
theorem Z28 (i : Int) : isTy s (.int i) .list = false := id rfl
theorem Z29 (i : Int) : isTy s (.int i) .tuple = false := id rfl
theorem Z2a (xs : List VV) : isTy s (.tup xs) .tuple = true := id rfl
theorem Z2b (xs : List VV) : isTy s (.tup xs) .list = false := id rfl
theorem Z2c (xs : List VV) : isTy s (.lst xs) .list = true := id rfl
theorem Z2d {α : Type} (p : α → Bool) : ([] : List α).any p = false := id rfl
theorem Z2e {α : Type} (p : α → Bool) (a : α) (l : List α) : (a :: l).any p = (p a || l.any p) := id rfl
theorem bls_map {α : Type} {p : α → Bool} : ∀ {l : List α}, mapO blOf (l.map fun a => VV.bl (p a)) = some (l.map p)
  | [] => rfl
  | a :: l => by
    rw [List.map_cons, List.map_cons]
    unfold mapO
    rw [bls_map (l := l)]
    rfl
theorem r_alll {α : Type} {p : α → Bool} {l : List α} (d : Bool) : biV d .all [.lst (l.map fun a => VV.bl (p a))] s = .ok (.bl (l.all p)) s := by
  show lift ((seqBls s (.lst (l.map fun a => VV.bl (p a)))).map fun bs => VV.bl (bs.all id)) s = _
  have e : seqBls s (.lst (l.map fun a => VV.bl (p a))) = some (l.map p) := bls_map
  rw [e]
  show Out.ok (VV.bl ((l.map p).all id)) s = _
  rw [List.all_map]
  rfl
end
end Tw
set_option Elab.async false
set_option linter.all false
set_option autoImplicit false
set_option maxRecDepth 100000
namespace Tw
open PySem (PyData Str)
def fn__law_same : Fn := ⟨2, 2, [.ret (.cmp .eq (.bi false .repr [(.var 0)]) (.bi false .repr [(.var 1)]))]⟩
def fn__law_box : Fn := ⟨2, 3, [.asg (.var 2) (.idx (.var 0) (.var 1)), .ret (.lst true [(.bin false .mul (.bi false .abs [(.var 2)]) (.bi false .int [(.cmp .ge (.bi false .abs [(.var 2)]) (.bin false .pow (.lit (.int 10)) (.lit (.int 18))))])), (.bin false .add (.bin false .add (.bin false .mod (.var 2) (.lit (.int 2305843009213693951))) (.bin false .mul (.lit (.int 15485863)) (.var 1))) (.lit (.int 11))), (.lit (.int 0))])]⟩
def fn__law_cells : Fn := ⟨2, 5, [.asg (.var 2) (.disj [(.bi true .list [(.sl false (.var 0) (.lit .non) (.var 1))]), (.lst true [(.lit (.int 0))])]), .forr (.tup [(.var 3), (.var 4)]) (.enum (.sl false (.var 0) (.var 1) (.lit (.int 63)))) [.sub (.var 2) (.bin false .mod (.var 3) (.var 1)) (.bin false .add (.idx (.var 2) (.bin false .mod (.var 3) (.var 1))) (.bin false .mul (.var 4) (.bin false .add (.var 3) (.lit (.int 2)))))], .ret (.var 2)]⟩
section
variable {P : Pg} {F : Sea} {s : Hs} {b c : Bool} {m : Mk} {v : VV}
theorem Z2f (a c : Str) : cmpV s .eq (.str a) (.str c) = some (decide (a = c)) := id rfl
theorem Z2g (a c : Str) : cmpV s .ne (.str a) (.str c) = some (!decide (a = c)) := id rfl
theorem repr_of {d : PyData} (h : toD dpt s v = some d) (w : wgt d ≤ 400000) : reprV s v = some d.shown := by
  unfold reprV
  rw [h]
  exact if_pos w
theorem Z2h (d : Bool) : biV d .repr [v] s = lift ((reprV s v).map .str) s := id rfl
theorem same_ok (hP : P "_law_same" = some fn__law_same) (n : Nat) {x y : VV} {d : PyData} (h1 : toD dpt s x = some d) (h2 : toD dpt s y = some d) (w : wgt d ≤ 400000) : callF P (n + 1) false "_law_same" [x, y] s = .ok (.bl true) s := by
  rw [callF_run hP rfl]
  simp only [fn__law_same, Z0, Z1, Z2, Z3, Z4, Z5, Z6, Z7, Z8, Z9, Za, Zb, Zd, Ze, Zf, Zg, Zh, Zi, Zj, Zk, Zl, Zm, Zn, Zo, Zp, Zq, Zr, Zs, Zt, Zu, Zv, Zw, Zx, Zy, Zz, ZA, ZB, ZC, ZD, ZE, ZF, ZG, ZH, ZI, ZJ, ZK, ZL, ZM, ZN, ZO, ZP, ZQ, ZR, ZS, ZT, ZU, ZV, ZW, ZX, ZY, ZZ, Z00, Z01, Z02, Z03, Z04, Z05, Z06, Z07, Z08, Z09, Z0a, Z0b, Z0c, Z0d, Z0e, Z0f, Z0g, Z0h, Z0i, Z0j, Z0k, Z0l, Z0m, Z0n, Z0o, Z0p, Z0q, Z0r, Z0s, Z0t, Z0u, Z0v, Z0w, Z0x, Z0y, Z0z, Z0A, Z0B, Z0C, Z0D, Z0E, Z0F, Z0G, Z0H, Z0I, Z0J, Z0K, Z0L, Z0M, Z0N, Z0O, Z0P, Z0Q, Z0R, Z0S, Z0T, Z0U, Z0V, Z0W, Z0X, Z0Y, Z0Z, Z10, Z11, Z12, Z13, Z14, Z15, Z16, Z17, Z18, Z19, Z1a, Z1b, Z1c, Z1d, Z1e, Z1f, Z1g, Z1h, Z1i, Z1j, Z1k, Z1l, Z1m, Z1n, Z1o, Z1p, Z1q, Z1r, Z1s, Z1t, Z1u, Z1v, Z1w, Z1x, Z1y, Z1z, Z1A, Z1B, Z1C, Z1D, Z1E, Z1F, Z1G, Z1H, Z1I, Z1J, Z1K, Z1L, Z1M, Z1N, Z1O, Z1P, Z1Q, Z1R, Z1S, Z1T, Z1U, Z1V, Z1W, Z1X, Z1Y, Z1Z, Z20, Z21, Z22, Z23, Z24, Z25, Z26, Z27, Z28, Z29, Z2a, Z2b, Z2c, Z2d, Z2e, Z2f, Z2g, Z2h, List.map_cons, List.map_nil, List.replicate, List.cons_append, List.nil_append, Nat.reduceSub, repr_of h1 w, repr_of h2 w, decide_true]
  exact fin_same rfl
theorem box_new (hP : P "_law_box" = some fn__law_box) (n : Nat) {cs : List Int} {i : Nat} (hi : i < cs.length) (hl : cs.length ≤ 64) : ∃ b : Bx, callF P (n + 1) true "_law_box" [.lst (cs.map .int), .int i] s = .ok (.ref s.length) (s ++ [b.ob]) := by
  have a1 : atV (cs.map VV.int) (i : Int) = some (.int cs[i]) := at_nat (by rw [List.getElem?_map, List.getElem?_eq_getElem hi]; rfl)
  generalize cs[i] = z at a1
  have hz : 0 ≤ (if z < 0 then -z else z) := by split <;> omega
  generalize hz' : (if z < 0 then -z else z) = a at hz
  have hs : small (if decide (1000000000000000000 ≤ a) = true then 1 else 0) = true := by split <;> exact small_of (by decide) (by decide)
  have h2 : small (15485863 : Int) = true := by decide
  refine ⟨⟨a * (if decide (1000000000000000000 ≤ a) = true then 1 else 0), z % 2305843009213693951 + 15485863 * i + 11, 0, Int.mul_nonneg hz (by split <;> omega)⟩, ?_⟩
  rw [callF_run hP rfl]
  simp only [fn__law_box, Z0, Z1, Z2, Z3, Z4, Z5, Z6, Z7, Z8, Z9, Za, Zb, Zd, Ze, Zf, Zg, Zh, Zi, Zj, Zk, Zl, Zm, Zn, Zo, Zp, Zq, Zr, Zs, Zt, Zu, Zv, Zw, Zx, Zy, Zz, ZA, ZB, ZC, ZD, ZE, ZF, ZG, ZH, ZI, ZJ, ZK, ZL, ZM, ZN, ZO, ZP, ZQ, ZR, ZS, ZT, ZU, ZV, ZW, ZX, ZY, ZZ, Z00, Z01, Z02, Z03, Z04, Z05, Z06, Z07, Z08, Z09, Z0a, Z0b, Z0c, Z0d, Z0e, Z0f, Z0g, Z0h, Z0i, Z0j, Z0k, Z0l, Z0m, Z0n, Z0o, Z0p, Z0q, Z0r, Z0s, Z0t, Z0u, Z0v, Z0w, Z0x, Z0y, Z0z, Z0A, Z0B, Z0C, Z0D, Z0E, Z0F, Z0G, Z0H, Z0I, Z0J, Z0K, Z0L, Z0M, Z0N, Z0O, Z0P, Z0Q, Z0R, Z0S, Z0T, Z0U, Z0V, Z0W, Z0X, Z0Y, Z0Z, Z10, Z11, Z12, Z13, Z14, Z15, Z16, Z17, Z18, Z19, Z1a, Z1b, Z1c, Z1d, Z1e, Z1f, Z1g, Z1h, Z1i, Z1j, Z1k, Z1l, Z1m, Z1n, Z1o, Z1p, Z1q, Z1r, Z1s, Z1t, Z1u, Z1v, Z1w, Z1x, Z1y, Z1z, Z1A, Z1B, Z1C, Z1D, Z1E, Z1F, Z1G, Z1H, Z1I, Z1J, Z1K, Z1L, Z1M, Z1N, Z1O, Z1P, Z1Q, Z1R, Z1S, Z1T, Z1U, Z1V, Z1W, Z1X, Z1Y, Z1Z, Z20, Z21, Z22, Z23, Z24, Z25, Z26, Z27, Z28, Z29, Z2a, Z2b, Z2c, Z2d, Z2e, Z2f, Z2g, Z2h, List.map_cons, List.map_nil, List.replicate, List.cons_append, List.nil_append, Nat.reduceSub, a1, hz', ar_mulR _ _ hs, ar_mulL _ _ h2, ar_mod _ 2305843009213693951 (by decide), Option.map_some]
  rfl
theorem cut_few (zs : List Int) (u : Nat) : cut (zs.map VV.int) none (some (u : Int)) = (zs.take (min u zs.length)).map VV.int := by
  unfold cut
  rw [List.length_map]
  unfold ixB
  dsimp only
  rw [if_neg (by omega)]
  simp
theorem cut_rest (zs : List Int) (u w : Nat) : cut (zs.map VV.int) (some (u : Int)) (some (w : Int)) = ((zs.drop (min u zs.length)).take (min w zs.length - min u zs.length)).map VV.int := by
  unfold cut
  rw [List.length_map, List.map_take, List.map_drop]
  unfold ixB
  dsimp only
  rw [if_neg (by omega), if_neg (by omega)]
  simp
theorem scr_few (zs : List Int) (u : Nat) (h : zs.length ≤ 63) : gSl false (.scr (zs.map .int)) none (some (u : Int)) s = .ok (.lst ((zs.take (min u zs.length)).map .int)) s := by
  show mkL false (cut (zs.map VV.int) none (some (u : Int))) s = _
  rw [cut_few]
  exact mkL_f (by rw [List.length_map, List.length_take]; exact sz_of (by omega))
theorem scr_rest (zs : List Int) (u w : Nat) (h : zs.length ≤ 63) : gSl false (.scr (zs.map .int)) (some (u : Int)) (some (w : Int)) s = .ok (.lst (((zs.drop (min u zs.length)).take (min w zs.length - min u zs.length)).map .int)) s := by
  show mkL false (cut (zs.map VV.int) (some (u : Int)) (some (w : Int))) s = _
  rw [cut_rest]
  exact mkL_f (by rw [List.length_map, List.length_take, List.length_drop]; exact sz_of (by omega))
theorem enum_at {xs : List VV} {i : Nat} {x : VV} (h : (enumV xs)[i]? = some x) : ∃ y, xs[i]? = some y ∧ x = .tup [.int i, y] := by
  unfold enumV at h
  rw [List.getElem?_mapIdx] at h
  obtain ⟨y, e, rfl⟩ := Option.map_eq_some_iff.mp h
  exact ⟨y, e, rfl⟩
theorem set_ints {cs : List Int} {i : Nat} {z : Int} : (cs.map VV.int).set i (.int z) = (cs.set i z).map VV.int := by rw [List.map_set]
theorem frz_ints {n lim : Nat} {S : Hs} (cs : List Int) : mapO (frz n lim S) (cs.map VV.int) = some (cs.map VV.int) := mapO_map fun i _ => frz_all n (.int i) rfl
theorem cells_e (P : Pg) (n : Nat) {zs : List Int} (hz : zs.length ≤ 63) {u : Nat} (hu : 0 < u ∧ u ≤ 63) : ∃ (cs : List Int) (g : Hs), 0 < cs.length ∧ cs.length ≤ u ∧
    exs (callF P n) fn__law_cells.body [some (.scr (zs.map .int)), some (.int u), none, none, none] s = .ok (.rt (.ref (s ++ g).length)) (s ++ g ++ [.lst (cs.map .int)]) := by
  -- the loop
  have loop : ∀ (S : Hs) (cs : List Int), 0 < cs.length → cs.length ≤ u → ∀ ws : List Int, ws.length ≤ 63 → (cs.length < u → ws = []) → ∃ (ds : List Int) (σ' : Sv), ds.length = cs.length ∧ σ'[2]? = some (some (.ref S.length)) ∧
      forL [] (stepF (callF P n) (.tup [(.var 3), (.var 4)]) [.sub (.var 2) (.bin false .mod (.var 3) (.var 1)) (.bin false .add (.idx (.var 2) (.bin false .mod (.var 3) (.var 1))) (.bin false .mul (.var 4) (.bin false .add (.var 3) (.lit (.int 2)))))])
        (enumV (ws.map .int)) [some (.scr (zs.map .int)), some (.int u), some (.ref S.length), none, none] (S ++ [.lst (cs.map .int)]) = .ok (.nx σ') (S ++ [.lst (ds.map .int)]) := by
    intro S cs c0 c1 ws lw hw
    have go := forL_ok (step := stepF (callF P n) (.tup [(.var 3), (.var 4)]) [.sub (.var 2) (.bin false .mod (.var 3) (.var 1)) (.bin false .add (.idx (.var 2) (.bin false .mod (.var 3) (.var 1))) (.bin false .mul (.var 4) (.bin false .add (.var 3) (.lit (.int 2)))))])
      (fun i σ T => ∃ ds o3 o4, ds.length = cs.length ∧ σ = [some (.scr (zs.map .int)), some (.int u), some (.ref S.length), o3, o4] ∧ T = S ++ [.lst (ds.map .int)]) (enumV (ws.map .int)) _ _ 0 ⟨cs, none, none, rfl, rfl, rfl⟩ fun i x σ T hx hI => by
        obtain ⟨ds, o3, o4, ld, rfl, rfl⟩ := hI
        obtain ⟨y, hy, rfl⟩ := enum_at hx
        obtain ⟨w, hw', rfl⟩ := map_at hy
        have li : i < ws.length := (List.getElem?_eq_some_iff.mp hw').1
        have cu : cs.length = u := by
          apply Classical.byContradiction
          intro q
          rw [hw (by omega)] at li
          exact absurd li (by simp)
        have kd : kid (S ++ [.lst (ds.map VV.int)]) S.length = some (ds.map .int) := kid_of (by rw [List.getElem?_append_right (Nat.le_refl _)]; simp)
        have mi : i % u < ds.length := by rw [ld, cu]; exact Nat.mod_lt _ hu.1
        have em : (i : Int) % (u : Int) = ((i % u : Nat) : Int) := (Int.natCast_emod i u).symm
        have a1 : atV (ds.map VV.int) ((i % u : Nat) : Int) = some (.int ds[i % u]) := at_nat (by rw [List.getElem?_map, List.getElem?_eq_getElem mi]; rfl)
        have st := set_of (n := i % u) (j := ((i % u : Nat) : Int)) (v := .int (ds[i % u] + w * ((i : Int) + 2))) kd (by rw [List.length_map]; exact ix_nat mi)
        rw [List.set_append_right _ _ (Nat.le_refl _)] at st
        simp only [Nat.sub_self, List.set_cons_zero] at st
        rw [set_ints] at st
        have hs : small ((i : Int) + 2) = true := small_of (by omega) (by omega)
        refine ⟨_, _, ?_, ds.set (i % u) (ds[i % u] + w * ((i : Int) + 2)), some (.int i), some (.int w), by rw [List.length_set]; exact ld, rfl, rfl⟩
        unfold stepF
        simp only [Z0, Z1, Z2, Z3, Z4, Z5, Z6, Z7, Z8, Z9, Za, Zb, Zd, Ze, Zf, Zg, Zh, Zi, Zj, Zk, Zl, Zm, Zn, Zo, Zp, Zq, Zr, Zs, Zt, Zu, Zv, Zw, Zx, Zy, Zz, ZA, ZB, ZC, ZD, ZE, ZF, ZG, ZH, ZI, ZJ, ZK, ZL, ZM, ZN, ZO, ZP, ZQ, ZR, ZS, ZT, ZU, ZV, ZW, ZX, ZY, ZZ, Z00, Z01, Z02, Z03, Z04, Z05, Z06, Z07, Z08, Z09, Z0a, Z0b, Z0c, Z0d, Z0e, Z0f, Z0g, Z0h, Z0i, Z0j, Z0k, Z0l, Z0m, Z0n, Z0o, Z0p, Z0q, Z0r, Z0s, Z0t, Z0u, Z0v, Z0w, Z0x, Z0y, Z0z, Z0A, Z0B, Z0C, Z0D, Z0E, Z0F, Z0G, Z0H, Z0I, Z0J, Z0K, Z0L, Z0M, Z0N, Z0O, Z0P, Z0Q, Z0R, Z0S, Z0T, Z0U, Z0V, Z0W, Z0X, Z0Y, Z0Z, Z10, Z11, Z12, Z13, Z14, Z15, Z16, Z17, Z18, Z19, Z1a, Z1b, Z1c, Z1d, Z1e, Z1f, Z1g, Z1h, Z1i, Z1j, Z1k, Z1l, Z1m, Z1n, Z1o, Z1p, Z1q, Z1r, Z1s, Z1t, Z1u, Z1v, Z1w, Z1x, Z1y, Z1z, Z1A, Z1B, Z1C, Z1D, Z1E, Z1F, Z1G, Z1H, Z1I, Z1J, Z1K, Z1L, Z1M, Z1N, Z1O, Z1P, Z1Q, Z1R, Z1S, Z1T, Z1U, Z1V, Z1W, Z1X, Z1Y, Z1Z, Z20, Z21, Z22, Z23, Z24, Z25, Z26, Z27, Z28, Z29, Z2a, Z2b, Z2c, Z2d, Z2e, Z2f, Z2g, Z2h, ar_mod _ _ (show (0 : Int) < u by omega), em, kd, a1, ar_mulR _ _ hs, st]
    obtain ⟨σ', T, e, ds, o3, o4, ld, rfl, rfl⟩ := go
    exact ⟨ds, _, ld, rfl, e⟩
  have e63 : (63 : Int) = ((63 : Nat) : Int) := rfl
  have b1 : bndOf (.lit .non) .non = some none := rfl
  have b2 : bndOf (.var 1) (.int u) = some (some (u : Int)) := rfl
  have b3 : bndOf (.lit (.int 63)) (.int 63) = some (some ((63 : Nat) : Int)) := rfl
  have en : ∀ (ws : List Int) (S : Hs), gEnum (.lst (ws.map .int)) S = .ok (enumV (ws.map .int), []) S := fun ws S => rfl
  have lr : ((zs.drop (min u zs.length)).take (min 63 zs.length - min u zs.length)).length ≤ 63 := by rw [List.length_take, List.length_drop]; omega
  have lw : ∀ {cs : List Int}, cs.length < u → zs.length ≤ cs.length → (zs.drop (min u zs.length)).take (min 63 zs.length - min u zs.length) = [] := fun {cs} h1 h2 => List.eq_nil_of_length_eq_zero (by rw [List.length_take, List.length_drop]; omega)
  generalize hw : (zs.drop (min u zs.length)).take (min 63 zs.length - min u zs.length) = ws at lr lw
  by_cases h0 : zs = []
  · subst h0
    obtain ⟨ds, σ', ld, hσ, e⟩ := loop (s ++ [.lst []]) [0] (by decide) (by simp; omega) ws lr fun h => lw h (by simp)
    refine ⟨ds, [.lst []], by rw [ld]; decide, by rw [ld]; simp; omega, ?_⟩
    have f1 := scr_few (s := s) [] u (by simp)
    have f2 := fun S : Hs => scr_rest (s := S) [] u 63 (by simp)
    rw [hw] at f2
    have k1 : kid (s ++ [Ob.lst []]) s.length = some [] := kid_of (by rw [List.getElem?_append_right (Nat.le_refl _)]; simp)
    have t1 : trV (s ++ [Ob.lst []]) (.ref s.length) = some false := by
      show (kid (s ++ [Ob.lst []]) s.length).map _ = _
      rw [k1]
      rfl
    have m1 : biV true .list [.lst []] s = .ok (.ref s.length) (s ++ [.lst []]) := mkL_t (by simp)
    simp only [List.length_nil, Nat.min_zero, List.take_zero, List.map_nil] at f1
    have hσ2 : σ'[2]? = some (some (.ref (s ++ [Ob.lst []]).length)) := hσ
    simp only [fn__law_cells, Z0, Z1, Z2, Z3, Z4, Z5, Z6, Z7, Z8, Z9, Za, Zb, Zd, Ze, Zf, Zg, Zh, Zi, Zj, Zk, Zl, Zm, Zn, Zo, Zp, Zq, Zr, Zs, Zt, Zu, Zv, Zw, Zx, Zy, Zz, ZA, ZB, ZC, ZD, ZE, ZF, ZG, ZH, ZI, ZJ, ZK, ZL, ZM, ZN, ZO, ZP, ZQ, ZR, ZS, ZT, ZU, ZV, ZW, ZX, ZY, ZZ, Z00, Z01, Z02, Z03, Z04, Z05, Z06, Z07, Z08, Z09, Z0a, Z0b, Z0c, Z0d, Z0e, Z0f, Z0g, Z0h, Z0i, Z0j, Z0k, Z0l, Z0m, Z0n, Z0o, Z0p, Z0q, Z0r, Z0s, Z0t, Z0u, Z0v, Z0w, Z0x, Z0y, Z0z, Z0A, Z0B, Z0C, Z0D, Z0E, Z0F, Z0G, Z0H, Z0I, Z0J, Z0K, Z0L, Z0M, Z0N, Z0O, Z0P, Z0Q, Z0R, Z0S, Z0T, Z0U, Z0V, Z0W, Z0X, Z0Y, Z0Z, Z10, Z11, Z12, Z13, Z14, Z15, Z16, Z17, Z18, Z19, Z1a, Z1b, Z1c, Z1d, Z1e, Z1f, Z1g, Z1h, Z1i, Z1j, Z1k, Z1l, Z1m, Z1n, Z1o, Z1p, Z1q, Z1r, Z1s, Z1t, Z1u, Z1v, Z1w, Z1x, Z1y, Z1z, Z1A, Z1B, Z1C, Z1D, Z1E, Z1F, Z1G, Z1H, Z1I, Z1J, Z1K, Z1L, Z1M, Z1N, Z1O, Z1P, Z1Q, Z1R, Z1S, Z1T, Z1U, Z1V, Z1W, Z1X, Z1Y, Z1Z, Z20, Z21, Z22, Z23, Z24, Z25, Z26, Z27, Z28, Z29, Z2a, Z2b, Z2c, Z2d, Z2e, Z2f, Z2g, Z2h, b1, b2, b3, List.map_nil, f1, m1, t1, if_false, Bool.false_eq_true, List.map_cons] at f2 e ⊢
    simp only [f2, en, Z0, Z1, Z2, Z3, Z4, Z5, Z6, Z7, Z8, Z9, Za, Zb, Zd, Ze, Zf, Zg, Zh, Zi, Zj, Zk, Zl, Zm, Zn, Zo, Zp, Zq, Zr, Zs, Zt, Zu, Zv, Zw, Zx, Zy, Zz, ZA, ZB, ZC, ZD, ZE, ZF, ZG, ZH, ZI, ZJ, ZK, ZL, ZM, ZN, ZO, ZP, ZQ, ZR, ZS, ZT, ZU, ZV, ZW, ZX, ZY, ZZ, Z00, Z01, Z02, Z03, Z04, Z05, Z06, Z07, Z08, Z09, Z0a, Z0b, Z0c, Z0d, Z0e, Z0f, Z0g, Z0h, Z0i, Z0j, Z0k, Z0l, Z0m, Z0n, Z0o, Z0p, Z0q, Z0r, Z0s, Z0t, Z0u, Z0v, Z0w, Z0x, Z0y, Z0z, Z0A, Z0B, Z0C, Z0D, Z0E, Z0F, Z0G, Z0H, Z0I, Z0J, Z0K, Z0L, Z0M, Z0N, Z0O, Z0P, Z0Q, Z0R, Z0S, Z0T, Z0U, Z0V, Z0W, Z0X, Z0Y, Z0Z, Z10, Z11, Z12, Z13, Z14, Z15, Z16, Z17, Z18, Z19, Z1a, Z1b, Z1c, Z1d, Z1e, Z1f, Z1g, Z1h, Z1i, Z1j, Z1k, Z1l, Z1m, Z1n, Z1o, Z1p, Z1q, Z1r, Z1s, Z1t, Z1u, Z1v, Z1w, Z1x, Z1y, Z1z, Z1A, Z1B, Z1C, Z1D, Z1E, Z1F, Z1G, Z1H, Z1I, Z1J, Z1K, Z1L, Z1M, Z1N, Z1O, Z1P, Z1Q, Z1R, Z1S, Z1T, Z1U, Z1V, Z1W, Z1X, Z1Y, Z1Z, Z20, Z21, Z22, Z23, Z24, Z25, Z26, Z27, Z28, Z29, Z2a, Z2b, Z2c, Z2d, Z2e, Z2f, Z2g, Z2h, e, hσ2]
  · have z1 : 0 < zs.length := List.length_pos_iff.mpr h0
    have l1 : (zs.take (min u zs.length)).length = min u zs.length := by rw [List.length_take]; omega
    obtain ⟨ds, σ', ld, hσ, e⟩ := loop s (zs.take (min u zs.length)) (by omega) (by omega) ws lr fun h => lw h (by omega)
    refine ⟨ds, [], by omega, by omega, ?_⟩
    have f1 := scr_few (s := s) zs u hz
    have f2 := fun S : Hs => scr_rest (s := S) zs u 63 hz
    rw [hw] at f2
    generalize zs.take (min u zs.length) = cs at *
    have k1 : kid (s ++ [Ob.lst (cs.map VV.int)]) s.length = some (cs.map .int) := kid_of (by rw [List.getElem?_append_right (Nat.le_refl _)]; simp)
    have t1 : trV (s ++ [Ob.lst (cs.map VV.int)]) (.ref s.length) = some true := by
      show (kid (s ++ [Ob.lst (cs.map VV.int)]) s.length).map _ = _
      rw [k1]
      cases cs with
      | nil => simp at l1; omega
      | cons c cs => rfl
    have m1 : biV true .list [.lst (cs.map VV.int)] s = .ok (.ref s.length) (s ++ [.lst (cs.map .int)]) := mkL_t (by rw [List.length_map]; exact sz_of (by omega))
    simp only [fn__law_cells, Z0, Z1, Z2, Z3, Z4, Z5, Z6, Z7, Z8, Z9, Za, Zb, Zd, Ze, Zf, Zg, Zh, Zi, Zj, Zk, Zl, Zm, Zn, Zo, Zp, Zq, Zr, Zs, Zt, Zu, Zv, Zw, Zx, Zy, Zz, ZA, ZB, ZC, ZD, ZE, ZF, ZG, ZH, ZI, ZJ, ZK, ZL, ZM, ZN, ZO, ZP, ZQ, ZR, ZS, ZT, ZU, ZV, ZW, ZX, ZY, ZZ, Z00, Z01, Z02, Z03, Z04, Z05, Z06, Z07, Z08, Z09, Z0a, Z0b, Z0c, Z0d, Z0e, Z0f, Z0g, Z0h, Z0i, Z0j, Z0k, Z0l, Z0m, Z0n, Z0o, Z0p, Z0q, Z0r, Z0s, Z0t, Z0u, Z0v, Z0w, Z0x, Z0y, Z0z, Z0A, Z0B, Z0C, Z0D, Z0E, Z0F, Z0G, Z0H, Z0I, Z0J, Z0K, Z0L, Z0M, Z0N, Z0O, Z0P, Z0Q, Z0R, Z0S, Z0T, Z0U, Z0V, Z0W, Z0X, Z0Y, Z0Z, Z10, Z11, Z12, Z13, Z14, Z15, Z16, Z17, Z18, Z19, Z1a, Z1b, Z1c, Z1d, Z1e, Z1f, Z1g, Z1h, Z1i, Z1j, Z1k, Z1l, Z1m, Z1n, Z1o, Z1p, Z1q, Z1r, Z1s, Z1t, Z1u, Z1v, Z1w, Z1x, Z1y, Z1z, Z1A, Z1B, Z1C, Z1D, Z1E, Z1F, Z1G, Z1H, Z1I, Z1J, Z1K, Z1L, Z1M, Z1N, Z1O, Z1P, Z1Q, Z1R, Z1S, Z1T, Z1U, Z1V, Z1W, Z1X, Z1Y, Z1Z, Z20, Z21, Z22, Z23, Z24, Z25, Z26, Z27, Z28, Z29, Z2a, Z2b, Z2c, Z2d, Z2e, Z2f, Z2g, Z2h, b1, b2, b3, f1, m1, t1, if_true, List.append_nil] at f2 e hσ ⊢
    simp only [f2, en, Z0, Z1, Z2, Z3, Z4, Z5, Z6, Z7, Z8, Z9, Za, Zb, Zd, Ze, Zf, Zg, Zh, Zi, Zj, Zk, Zl, Zm, Zn, Zo, Zp, Zq, Zr, Zs, Zt, Zu, Zv, Zw, Zx, Zy, Zz, ZA, ZB, ZC, ZD, ZE, ZF, ZG, ZH, ZI, ZJ, ZK, ZL, ZM, ZN, ZO, ZP, ZQ, ZR, ZS, ZT, ZU, ZV, ZW, ZX, ZY, ZZ, Z00, Z01, Z02, Z03, Z04, Z05, Z06, Z07, Z08, Z09, Z0a, Z0b, Z0c, Z0d, Z0e, Z0f, Z0g, Z0h, Z0i, Z0j, Z0k, Z0l, Z0m, Z0n, Z0o, Z0p, Z0q, Z0r, Z0s, Z0t, Z0u, Z0v, Z0w, Z0x, Z0y, Z0z, Z0A, Z0B, Z0C, Z0D, Z0E, Z0F, Z0G, Z0H, Z0I, Z0J, Z0K, Z0L, Z0M, Z0N, Z0O, Z0P, Z0Q, Z0R, Z0S, Z0T, Z0U, Z0V, Z0W, Z0X, Z0Y, Z0Z, Z10, Z11, Z12, Z13, Z14, Z15, Z16, Z17, Z18, Z19, Z1a, Z1b, Z1c, Z1d, Z1e, Z1f, Z1g, Z1h, Z1i, Z1j, Z1k, Z1l, Z1m, Z1n, Z1o, Z1p, Z1q, Z1r, Z1s, Z1t, Z1u, Z1v, Z1w, Z1x, Z1y, Z1z, Z1A, Z1B, Z1C, Z1D, Z1E, Z1F, Z1G, Z1H, Z1I, Z1J, Z1K, Z1L, Z1M, Z1N, Z1O, Z1P, Z1Q, Z1R, Z1S, Z1T, Z1U, Z1V, Z1W, Z1X, Z1Y, Z1Z, Z20, Z21, Z22, Z23, Z24, Z25, Z26, Z27, Z28, Z29, Z2a, Z2b, Z2c, Z2d, Z2e, Z2f, Z2g, Z2h, e, hσ]
theorem cells_ok (hP : P "_law_cells" = some fn__law_cells) (n : Nat) {zs : List Int} (hz : zs.length ≤ 63) {u : Nat} (hu : 0 < u ∧ u ≤ 63) : ∃ cs : List Int, 0 < cs.length ∧ cs.length ≤ u ∧
    callF P (n + 1) false "_law_cells" [.scr (zs.map .int), .int u] s = .ok (.lst (cs.map .int)) s := by
  obtain ⟨cs, g, h1, h2, e⟩ := cells_e (s := s) P n hz hu
  refine ⟨cs, h1, h2, ?_⟩
  rw [callF_run hP rfl]
  show (exs (callF P n) fn__law_cells.body [some (.scr (zs.map .int)), some (.int u), none, none, none] s).bind _ = _
  rw [e]
  show fin false s (.ref (s ++ g).length) (s ++ g ++ [.lst (cs.map .int)]) = _
  rw [List.append_assoc]
  refine fin_frz rfl ?_
  rw [← List.append_assoc]
  exact frz_ref (by simp) (by rw [List.getElem?_append_right (Nat.le_refl _)]; simp) (frz_ints cs)
end
end Tw
set_option Elab.async false
set_option linter.all false
set_option autoImplicit false
set_option maxRecDepth 100000
namespace Tw
open PySem (PyData Str)
section
variable {P : Pg} {F : Sea} {s ex g : Hs} {b c : Bool} {m : Mk} {v : VV} {k n : Nat} {bx bx' : Bx}
theorem fin_boxes {v : VV} (h : k < s.length) (hv : pur v = true) (g : Hs) : fin false (St s k bx ex) v (St s k bx' (ex ++ g)) = .ok v (St s k bx' ex) := by
  unfold fin
  rw [if_neg (by decide), if_pos (St.stays h g), if_pos hv, St.take]
theorem mapO_cons {α β : Type} {f : α → Option β} {x : α} {xs : List α} {y : β} {ys : List β} (h : f x = some y) (t : mapO f xs = some ys) : mapO f (x :: xs) = some (y :: ys) := by
  unfold mapO
  rw [h, t]
theorem lay_all {n : Nat} {s : Hs} (ih : ∀ v d, toD n s v = some d → d.canLay0 = true) : ∀ {xs : List VV} {ds : List PyData}, mapO (toD n s) xs = some ds → PyData.canLayAll0 ds = true
  | [], ds, e => by cases e; rfl
  | x :: xs, ds, e => by
    unfold mapO at e
    split at e
    · rename_i d ds' e1 e2
      cases e
      simp only [PyData.canLayAll0, ih _ _ e1, lay_all ih e2, Bool.and_self]
    · cases e
theorem toD_lay : ∀ (n : Nat) (v : VV) (d : PyData), toD n s v = some d → d.canLay0 = true := by
  have strz : ∀ (y : Str) (d : PyData), (if PyData.strOk y then some (PyData.str y) else none) = some d → d.canLay0 = true := fun y d e => by
    split at e
    · rename_i h
      cases e
      simpa only [PyData.canLay0] using h
    · cases e
  intro n
  induction n with
  | zero =>
    intro v d e
    cases v with
    | non => cases e; rfl
    | bl b => cases e; rfl
    | int i => cases e; rfl
    | str y => exact strz y d e
    | _ => cases e
  | succ n ih =>
    intro v d e
    cases v with
    | non => cases e; rfl
    | bl b => cases e; rfl
    | int i => cases e; rfl
    | str y => exact strz y d e
    | tup xs =>
      obtain ⟨ds, e1, rfl⟩ := Option.map_eq_some_iff.mp e
      simpa only [PyData.canLay0] using lay_all ih e1
    | lst xs =>
      obtain ⟨ds, e1, rfl⟩ := Option.map_eq_some_iff.mp e
      simpa only [PyData.canLay0] using lay_all ih e1
    | ref k =>
      have e' : (match kid s k with
        | some xs => (mapO (toD n s) xs).map PyData.list
        | none => none) = some d := e
      split at e'
      · obtain ⟨ds, e1, rfl⟩ := Option.map_eq_some_iff.mp e'
        simpa only [PyData.canLay0] using lay_all ih e1
      · cases e'
    | _ => cases e
theorem eq_data {x y : VV} {d : PyData} (h1 : toD dpt s x = some d) (h2 : toD dpt s y = some d) (hx : ∀ z, x ≠ .str z) : cmpV s .eq x y = some true := by
  have e : eqX s x y = eqV s x y := by
    unfold eqX
    split
    · rename_i a b
      exact absurd rfl (hx a)
    · rfl
  show eqX s x y = _
  rw [e]
  unfold eqV
  rw [h1, h2]
  exact congrArg some (PySem.SeqAt.eqv_refl d (toD_lay dpt x d h1))
theorem ne_data {x y : VV} {d : PyData} (h1 : toD dpt s x = some d) (h2 : toD dpt s y = some d) (hx : ∀ z, x ≠ .str z) : cmpV s .ne x y = some false := by
  have := eq_data h1 h2 hx
  show (eqX s x y).map _ = _
  rw [show eqX s x y = some true from this]
  rfl
end
end Tw
set_option Elab.async false
set_option linter.all false
set_option autoImplicit false
set_option maxRecDepth 100000
namespace Tw
section
variable {P : Pg}
theorem exs_app {cl : Cl} : ∀ (a b : List Stm) (σ : Sv) (s : Hs), exs cl (a ++ b) σ s = (exs cl a σ s).bind (thenS cl b)
  | [], b, σ, s => rfl
  | st :: a, b, σ, s => by
    rw [List.cons_append, ZG, ZG, Out.bind_assoc]
    congr 1
    funext f s'
    cases f with
    | nx σ' => exact exs_app a b σ' s'
    | _ => rfl
theorem Z2i (d : Bool) (xs ys : List VV) (S : Hs) : binG d .add (.tup xs) (.tup ys) S = mkT (xs ++ ys) S := id rfl
def lawT (u t : Int) : Fn := ⟨1, 5, [.asg (.var 1) (.call false "_law_cells" [(.var 0), (.lit (.int u))]), .forr (.var 2) (.range [(.bi false .len [(.var 1)])]) [.asg (.var 3) (.call true "_law_box" [(.var 1), (.var 2)]), .ife (.no (.bi false .all [(.comp false (.call false "_law_right" [(.var 3)]) (.var 4) (.range [(.lit (.int t))]) [] [4])])) [.ret (.lit (.bl false))] []], .ret (.lit (.bl true))]⟩
def Right (P : Pg) (N : Nat) : Prop := ∀ (s : Hs) (k : Nat) (b : Bx), k < s.length → ∃ b' : Bx, callF P N false "_law_right" [.ref k] (St s k b []) = .ok (.bl true) (St s k b' [])
theorem all_true {l : List Nat} {s : Hs} {d : Bool} : biV d .all [.lst (l.map fun _ => VV.bl true)] s = .ok (.bl true) s := by
  have := r_alll (l := l) (p := fun _ => true) (s := s) d
  rw [this]
  congr 2
  exact List.all_eq_true.mpr fun _ _ => rfl
theorem lawT_ok (hC : P "_law_cells" = some fn__law_cells) (hB : P "_law_box" = some fn__law_box) {u t : Nat} (hL : P "law" = some (lawT u t)) (hu : 0 < u ∧ u ≤ 63) (ht : t ≤ 63) {N : Nat} (hR : Right P (N + 1)) (zs : List Int) (hz : zs.length ≤ 63) : ∃ S, callF P (N + 2) false "law" [.scr (zs.map .int)] [] = .ok (.bl true) S := by
  obtain ⟨cs, c1, c2, e1⟩ := cells_ok (s := []) hC N hz hu
  rw [callF_run hL rfl]
  have rg := rng_nat (s := []) (n := cs.length) (by omega)
  have ln : (((cs.map VV.int).length : Nat) : Int) = ((cs.length : Nat) : Int) := by rw [List.length_map]
  obtain ⟨σ', S', e2, g, o2, o3, o4, rfl, rfl⟩ := forL_ok (step := stepF (callF P (N + 1)) (.var 2) [.asg (.var 3) (.call true "_law_box" [(.var 1), (.var 2)]), .ife (.no (.bi false .all [(.comp false (.call false "_law_right" [(.var 3)]) (.var 4) (.range [(.lit (.int t))]) [] [4])])) [.ret (.lit (.bl false))] []])
    (fun i σ S => ∃ (g : Hs) (o2 o3 o4 : Option VV), σ = [some (.scr (zs.map .int)), some (.lst (cs.map .int)), o2, o3, o4] ∧ S = g) ((List.range cs.length).map fun (i : Nat) => VV.int i) [some (.scr (zs.map .int)), some (.lst (cs.map .int)), none, none, none] [] 0 ⟨_, none, none, none, rfl, rfl⟩ fun i x σ S hx hI => by
      obtain ⟨hi, rfl⟩ := range_at hx
      obtain ⟨g, o2, o3, o4, rfl, rfl⟩ := hI
      obtain ⟨b, e3⟩ := box_new (s := S) hB N hi (by omega)
      have st : S ++ [b.ob] = St (S ++ [b.ob]) S.length b [] := by
        unfold St
        rw [List.set_append_right _ _ (Nat.le_refl _)]
        simp
      have cc : ∃ b' : Bx, compL [] (stepC (callF P (N + 1)) (.call false "_law_right" [(.var 3)]) (.var 4) [] [4] [some (.scr (zs.map .int)), some (.lst (cs.map .int)), some (.int i), some (.ref S.length), o4]) ((List.range t).map fun (i : Nat) => VV.int i) (S ++ [b.ob]) = .ok ((List.range t).map fun _ => VV.bl true) (St (S ++ [b.ob]) S.length b' []) := by
        obtain ⟨rs, T, e, b', h3, rfl⟩ := compL_ok (step := stepC (callF P (N + 1)) (.call false "_law_right" [(.var 3)]) (.var 4) [] [4] [some (.scr (zs.map .int)), some (.lst (cs.map .int)), some (.int i), some (.ref S.length), o4]) (fun i acc T => ∃ b', acc = (List.range i).map (fun _ => VV.bl true) ∧ T = St (S ++ [b.ob]) S.length b' []) ((List.range t).map fun (i : Nat) => VV.int i) [] (S ++ [b.ob]) 0 ⟨b, rfl, st⟩ fun i x acc T hx hI => by
          obtain ⟨b', rfl, rfl⟩ := hI
          obtain ⟨hj, rfl⟩ := range_at hx
          obtain ⟨b'', e⟩ := hR (S ++ [b.ob]) S.length b' (by simp)
          refine ⟨some (.bl true), _, ?_, b'', ?_, rfl⟩
          · simp only [stepC, Z0, Z1, Z2, Z3, Z4, Z5, Z6, Z7, Z8, Z9, Za, Zb, Zd, Ze, Zf, Zg, Zh, Zi, Zj, Zk, Zl, Zm, Zn, Zo, Zp, Zq, Zr, Zs, Zt, Zu, Zv, Zw, Zx, Zy, Zz, ZA, ZB, ZC, ZD, ZE, ZF, ZG, ZH, ZI, ZJ, ZK, ZL, ZM, ZN, ZO, ZP, ZQ, ZR, ZS, ZT, ZU, ZV, ZW, ZX, ZY, ZZ, Z00, Z01, Z02, Z03, Z04, Z05, Z06, Z07, Z08, Z09, Z0a, Z0b, Z0c, Z0d, Z0e, Z0f, Z0g, Z0h, Z0i, Z0j, Z0k, Z0l, Z0m, Z0n, Z0o, Z0p, Z0q, Z0r, Z0s, Z0t, Z0u, Z0v, Z0w, Z0x, Z0y, Z0z, Z0A, Z0B, Z0C, Z0D, Z0E, Z0F, Z0G, Z0H, Z0I, Z0J, Z0K, Z0L, Z0M, Z0N, Z0O, Z0P, Z0Q, Z0R, Z0S, Z0T, Z0U, Z0V, Z0W, Z0X, Z0Y, Z0Z, Z10, Z11, Z12, Z13, Z14, Z15, Z16, Z17, Z18, Z19, Z1a, Z1b, Z1c, Z1d, Z1e, Z1f, Z1g, Z1h, Z1i, Z1j, Z1k, Z1l, Z1m, Z1n, Z1o, Z1p, Z1q, Z1r, Z1s, Z1t, Z1u, Z1v, Z1w, Z1x, Z1y, Z1z, Z1A, Z1B, Z1C, Z1D, Z1E, Z1F, Z1G, Z1H, Z1I, Z1J, Z1K, Z1L, Z1M, Z1N, Z1O, Z1P, Z1Q, Z1R, Z1S, Z1T, Z1U, Z1V, Z1W, Z1X, Z1Y, Z1Z, Z20, Z21, Z22, Z23, Z24, Z25, Z26, Z27, Z28, Z29, Z2a, Z2b, Z2c, Z2d, Z2e, Z2f, Z2g, Z2h, Z2i, e, if_true]
          · rw [Nat.zero_add, List.range_succ, List.map_append]
            rfl
        rw [List.nil_append, List.length_map, List.length_range, Nat.zero_add] at h3
        rw [h3] at e
        exact ⟨b', e⟩
      obtain ⟨b', e4⟩ := cc
      have rg := rng_nat (s := S ++ [b.ob]) (n := t) (by omega)
      have m1 : ∀ T, mkL false ((List.range t).map fun _ => VV.bl true) T = .ok (.lst ((List.range t).map fun _ => VV.bl true)) T := fun T => mkL_f (sz_of (by simp; omega))
      refine ⟨_, St (S ++ [b.ob]) S.length b' [], ?_, _, some (.int i), some (.ref S.length), o4, rfl, rfl⟩
      rw [stepF_v]
      simp only [Z0, Z1, Z2, Z3, Z4, Z5, Z6, Z7, Z8, Z9, Za, Zb, Zd, Ze, Zf, Zg, Zh, Zi, Zj, Zk, Zl, Zm, Zn, Zo, Zp, Zq, Zr, Zs, Zt, Zu, Zv, Zw, Zx, Zy, Zz, ZA, ZB, ZC, ZD, ZE, ZF, ZG, ZH, ZI, ZJ, ZK, ZL, ZM, ZN, ZO, ZP, ZQ, ZR, ZS, ZT, ZU, ZV, ZW, ZX, ZY, ZZ, Z00, Z01, Z02, Z03, Z04, Z05, Z06, Z07, Z08, Z09, Z0a, Z0b, Z0c, Z0d, Z0e, Z0f, Z0g, Z0h, Z0i, Z0j, Z0k, Z0l, Z0m, Z0n, Z0o, Z0p, Z0q, Z0r, Z0s, Z0t, Z0u, Z0v, Z0w, Z0x, Z0y, Z0z, Z0A, Z0B, Z0C, Z0D, Z0E, Z0F, Z0G, Z0H, Z0I, Z0J, Z0K, Z0L, Z0M, Z0N, Z0O, Z0P, Z0Q, Z0R, Z0S, Z0T, Z0U, Z0V, Z0W, Z0X, Z0Y, Z0Z, Z10, Z11, Z12, Z13, Z14, Z15, Z16, Z17, Z18, Z19, Z1a, Z1b, Z1c, Z1d, Z1e, Z1f, Z1g, Z1h, Z1i, Z1j, Z1k, Z1l, Z1m, Z1n, Z1o, Z1p, Z1q, Z1r, Z1s, Z1t, Z1u, Z1v, Z1w, Z1x, Z1y, Z1z, Z1A, Z1B, Z1C, Z1D, Z1E, Z1F, Z1G, Z1H, Z1I, Z1J, Z1K, Z1L, Z1M, Z1N, Z1O, Z1P, Z1Q, Z1R, Z1S, Z1T, Z1U, Z1V, Z1W, Z1X, Z1Y, Z1Z, Z20, Z21, Z22, Z23, Z24, Z25, Z26, Z27, Z28, Z29, Z2a, Z2b, Z2c, Z2d, Z2e, Z2f, Z2g, Z2h, Z2i, e3, rg, e4, m1, all_true, Bool.not_true, if_false, Bool.false_eq_true]
  refine ⟨[], ?_⟩
  simp only [lawT, Z0, Z1, Z2, Z3, Z4, Z5, Z6, Z7, Z8, Z9, Za, Zb, Zd, Ze, Zf, Zg, Zh, Zi, Zj, Zk, Zl, Zm, Zn, Zo, Zp, Zq, Zr, Zs, Zt, Zu, Zv, Zw, Zx, Zy, Zz, ZA, ZB, ZC, ZD, ZE, ZF, ZG, ZH, ZI, ZJ, ZK, ZL, ZM, ZN, ZO, ZP, ZQ, ZR, ZS, ZT, ZU, ZV, ZW, ZX, ZY, ZZ, Z00, Z01, Z02, Z03, Z04, Z05, Z06, Z07, Z08, Z09, Z0a, Z0b, Z0c, Z0d, Z0e, Z0f, Z0g, Z0h, Z0i, Z0j, Z0k, Z0l, Z0m, Z0n, Z0o, Z0p, Z0q, Z0r, Z0s, Z0t, Z0u, Z0v, Z0w, Z0x, Z0y, Z0z, Z0A, Z0B, Z0C, Z0D, Z0E, Z0F, Z0G, Z0H, Z0I, Z0J, Z0K, Z0L, Z0M, Z0N, Z0O, Z0P, Z0Q, Z0R, Z0S, Z0T, Z0U, Z0V, Z0W, Z0X, Z0Y, Z0Z, Z10, Z11, Z12, Z13, Z14, Z15, Z16, Z17, Z18, Z19, Z1a, Z1b, Z1c, Z1d, Z1e, Z1f, Z1g, Z1h, Z1i, Z1j, Z1k, Z1l, Z1m, Z1n, Z1o, Z1p, Z1q, Z1r, Z1s, Z1t, Z1u, Z1v, Z1w, Z1x, Z1y, Z1z, Z1A, Z1B, Z1C, Z1D, Z1E, Z1F, Z1G, Z1H, Z1I, Z1J, Z1K, Z1L, Z1M, Z1N, Z1O, Z1P, Z1Q, Z1R, Z1S, Z1T, Z1U, Z1V, Z1W, Z1X, Z1Y, Z1Z, Z20, Z21, Z22, Z23, Z24, Z25, Z26, Z27, Z28, Z29, Z2a, Z2b, Z2c, Z2d, Z2e, Z2f, Z2g, Z2h, Z2i, List.map_cons, List.map_nil, List.replicate, List.cons_append, List.nil_append, Nat.reduceSub, e1, ln, rg, e2]
  exact fin_drop (s := []) rfl
end
end Tw
set_option Elab.async false
set_option linter.all false
set_option autoImplicit false
set_option maxRecDepth 100000
namespace Tw.K66
open Tw
open PySem (PyData Str)
def fn__law_kinds : Fn := ⟨1, 2, [.asg (.var 1) (.lst false [(.isx (.var 0) [.own "BadText"]), (.isx (.var 0) [.own "BadRow"]), (.isx (.var 0) [.own "Slips"])]), .asg (.var 1) (.bin false .add (.var 1) (.lst false [(.isx (.var 0) [.own "NotThere"]), (.isx (.var 0) [.own "NoBoat"]), (.isx (.var 0) [.own "NoLine"])])), .asg (.var 1) (.bin false .add (.var 1) (.lst false [(.isx (.var 0) [.own "NoCrew"]), (.isx (.var 0) [.own "NoRow"]), (.isx (.var 0) [.own "NoDeed"])])), .ret (.bin false .add (.var 1) (.lst false [(.isx (.var 0) [.own "Behind"]), (.isx (.var 0) [.own "NotEnough"]), (.isx (.var 0) [.own "TooMany"])]))]⟩
def fn__law_are_alone : Fn := ⟨1, 6, [.forr (.tup [(.var 1), (.var 2)]) (.enum (.var 0)) [.asg (.var 3) (.lst false [(.isx (.var 2) [.bas "ValueError"]), (.isx (.var 2) [.bas "LookupError"]), (.isx (.var 2) [.bas "RuntimeError"])]), .asg (.var 5) (.comp false (.cmp .eq (.var 4) (.idx (.lst false [(.lit (.int 0)), (.lit (.int 0)), (.lit (.int 0)), (.lit (.int 0)), (.lit (.int 1)), (.lit (.int 1)), (.lit (.int 1)), (.lit (.int 1)), (.lit (.int 1)), (.lit (.int 2)), (.lit (.int 2)), (.lit (.int 3))]) (.var 1))) (.var 4) (.range [(.lit (.int 4))]) [] [4]), .ife (.disj [(.cmp .ne (.bin false .add (.var 3) (.lst false [(.isx (.var 2) [.bas "OverflowError"])])) (.var 5)), (.cmp .ne (.call false "_law_kinds" [(.var 2)]) (.comp false (.cmp .eq (.var 4) (.var 1)) (.var 4) (.range [(.lit (.int 12))]) [] [4]))]) [.ret (.lit (.bl false))] [], .ife (.isx (.var 2) [.bas "IndexError", .bas "KeyError", .bas "NotImplementedError"]) [.ret (.lit (.bl false))] []], .ret (.lit (.bl true))]⟩
def fn__law_right : Fn := ⟨1, 5, [.asg (.var 1) (.call false "_law_take" [(.var 0), (.lit (.int 9))]), .asg (.var 2) (.lst false [(.xmk "BadText" (.lit (.str ({ cps := #[97] })))), (.xmk "BadRow" (.var 1)), (.xmk "Slips" (.tup [(.lit (.int 0)), (.lit (.int 1)), (.var 1)])), (.xmk "NotThere" (.lst false [(.var 1)])), (.xmk "NoBoat" (.var 1)), (.xmk "NoLine" (.tup [(.var 1), (.lit (.int 0))])), (.xmk "NoCrew" (.var 1))]), .asg (.var 2) (.bin false .add (.var 2) (.lst false [(.xmk "NoRow" (.var 1)), (.xmk "NoDeed" (.var 1)), (.xmk "Behind" (.var 1)), (.xmk "NotEnough" (.var 1)), (.xmk "TooMany" (.var 1))])), .asg (.var 3) (.lst true [(.fld (.idx (.var 2) (.lit (.int 0))) ({ cps := #[116, 101, 120, 116] })), (.fld (.idx (.var 2) (.lit (.int 1))) ({ cps := #[110, 117, 109, 98, 101, 114] })), (.fld (.idx (.var 2) (.lit (.int 2))) ({ cps := #[108, 105, 110, 101] })), (.fld (.idx (.var 2) (.lit (.int 3))) ({ cps := #[114, 111, 119] })), (.fld (.idx (.var 2) (.lit (.int 4))) ({ cps := #[98, 111, 97, 116] })), (.fld (.idx (.var 2) (.lit (.int 5))) ({ cps := #[112, 97, 105, 114] })), (.fld (.idx (.var 2) (.lit (.int 6))) ({ cps := #[110, 117, 109, 98, 101, 114] }))]), .asg (.var 3) (.bin true .add (.var 3) (.lst false [(.fld (.idx (.var 2) (.lit (.int 7))) ({ cps := #[110, 117, 109, 98, 101, 114] })), (.fld (.idx (.var 2) (.lit (.int 8))) ({ cps := #[109, 97, 110, 121] })), (.fld (.idx (.var 2) (.lit (.int 9))) ({ cps := #[98, 111, 97, 116] })), (.fld (.idx (.var 2) (.lit (.int 10))) ({ cps := #[98, 111, 97, 116] })), (.fld (.idx (.var 2) (.lit (.int 11))) ({ cps := #[109, 97, 110, 121] }))])), .asg (.var 4) (.lst false [(.lit (.str ({ cps := #[97] }))), (.var 1), (.tup [(.lit (.int 0)), (.lit (.int 1)), (.var 1)]), (.lst false [(.var 1)]), (.var 1), (.tup [(.var 1), (.lit (.int 0))]), (.var 1), (.var 1), (.var 1), (.var 1), (.var 1), (.var 1)]), .ife (.disj [(.no (.call false "_law_are_alone" [(.var 2)])), (.no (.call false "_law_same" [(.var 3), (.var 4)]))]) [.ret (.lit (.bl false))] [], .asg (.var 3) (.lst true [(.bi false .int [(.fld (.xmk "BadText" (.bi false .str [(.var 1)])) ({ cps := #[116, 101, 120, 116] }))]), (.fld (.xmk "BadRow" (.var 1)) ({ cps := #[110, 117, 109, 98, 101, 114] })), (.idx (.fld (.xmk "Slips" (.tup [(.lit (.int 0)), (.lit (.int 1)), (.var 1)])) ({ cps := #[108, 105, 110, 101] })) (.lit (.int 2)))]), .asg (.var 3) (.bin true .add (.var 3) (.lst false [(.idx (.fld (.xmk "NotThere" (.lst false [(.var 1)])) ({ cps := #[114, 111, 119] })) (.lit (.int 0))), (.fld (.xmk "NoBoat" (.var 1)) ({ cps := #[98, 111, 97, 116] })), (.idx (.fld (.xmk "NoLine" (.tup [(.var 1), (.lit (.int 0))])) ({ cps := #[112, 97, 105, 114] })) (.lit (.int 0)))])), .expr (.bm .append (.var 3) [(.fld (.xmk "NoCrew" (.var 1)) ({ cps := #[110, 117, 109, 98, 101, 114] }))]), .asg (.var 3) (.bin true .add (.var 3) (.lst false [(.fld (.xmk "NoRow" (.var 1)) ({ cps := #[110, 117, 109, 98, 101, 114] })), (.fld (.xmk "NoDeed" (.var 1)) ({ cps := #[109, 97, 110, 121] })), (.fld (.xmk "Behind" (.var 1)) ({ cps := #[98, 111, 97, 116] }))])), .ret (.call false "_law_same" [(.bin false .add (.var 3) (.lst false [(.fld (.xmk "NotEnough" (.var 1)) ({ cps := #[98, 111, 97, 116] })), (.fld (.xmk "TooMany" (.var 1)) ({ cps := #[109, 97, 110, 121] }))])), (.bin false .mul (.lst false [(.var 1)]) (.lit (.int 12)))])]⟩
def fn_law : Fn := ⟨1, 5, [.asg (.var 1) (.call false "_law_cells" [(.var 0), (.lit (.int 3))]), .forr (.var 2) (.range [(.bi false .len [(.var 1)])]) [.asg (.var 3) (.call true "_law_box" [(.var 1), (.var 2)]), .ife (.no (.bi false .all [(.comp false (.call false "_law_right" [(.var 3)]) (.var 4) (.range [(.lit (.int 1))]) [] [4])])) [.ret (.lit (.bl false))] []], .ret (.lit (.bl true))]⟩
structure Has (P : Pg) : Prop where
  take : P "_law_take" = some fn__law_take
  box : P "_law_box" = some fn__law_box
  cells : P "_law_cells" = some fn__law_cells
  same : P "_law_same" = some fn__law_same
  kinds : P "_law_kinds" = some fn__law_kinds
  alone : P "_law_are_alone" = some fn__law_are_alone
  right : P "_law_right" = some fn__law_right
  law : P "law" = some fn_law
section
variable {P : Pg} {s T : Hs} {k : Nat}
def knds (c : String) : List Bool := ["BadText", "BadRow", "Slips", "NotThere", "NoBoat", "NoLine", "NoCrew", "NoRow", "NoDeed", "Behind", "NotEnough", "TooMany"].map fun t => subX c (.own t)
theorem sz {xs : List VV} (h : xs.length ≤ 1000) : xs.length ≤ szL := by
  have : szL = 16777216 := rfl
  omega
theorem add_ll (xs ys : List VV) (S : Hs) (h : xs.length + ys.length ≤ 1000) : binG false .add (.lst xs) (.lst ys) S = .ok (.lst (xs ++ ys)) S := by
  have e : binG false .add (.lst xs) (.lst ys) S = mkL false (xs ++ ys) S := id rfl
  rw [e]
  exact mkL_f (sz (by rw [List.length_append]; exact h))
theorem add_rl {xs ys : List VV} {j : Nat} {S : Hs} (hk : kid S j = some xs) (h : xs.length + ys.length ≤ 1000) : binG true .add (.ref j) (.lst ys) S = .ok (.ref S.length) (S ++ [.lst (xs ++ ys)]) := by
  show (match seqOf S (.ref j), seqOf S (.lst ys) with
    | some xs, some ys => mkL true (xs ++ ys) S
    | _, _ => .bad) = _
  rw [show seqOf S (.ref j) = some xs from hk]
  exact mkL_t (sz (by rw [List.length_append]; exact h))
theorem add_rf {xs ys : List VV} {j : Nat} {S : Hs} (hk : kid S j = some xs) (h : xs.length + ys.length ≤ 1000) : binG false .add (.ref j) (.lst ys) S = .ok (.lst (xs ++ ys)) S := by
  show (match seqOf S (.ref j), seqOf S (.lst ys) with
    | some xs, some ys => mkL false (xs ++ ys) S
    | _, _ => .bad) = _
  rw [show seqOf S (.ref j) = some xs from hk]
  exact mkL_f (sz (by rw [List.length_append]; exact h))
theorem kinds_ok (hP : Has P) (n : Nat) (c : String) (v : VV) : callF P (n + 1) false "_law_kinds" [.exc c v] T = .ok (.lst ((knds c).map .bl)) T := by
  have mk3 : ∀ (a b d : VV) S, mkL false [a, b, d] S = .ok (.lst [a, b, d]) S := fun a b d S => mkL_f (sz (by simp))
  have a3 : ∀ (a b c d e f : VV) S, binG false .add (.lst [a, b, c]) (.lst [d, e, f]) S = .ok (.lst [a, b, c, d, e, f]) S := fun a b c d e f S => add_ll _ _ S (by simp)
  have a6 : ∀ (a b c d e f g h i : VV) S, binG false .add (.lst [a, b, c, d, e, f]) (.lst [g, h, i]) S = .ok (.lst [a, b, c, d, e, f, g, h, i]) S := fun a b c d e f g h i S => add_ll _ _ S (by simp)
  have a9 : ∀ (a b c d e f g h i j k l : VV) S, binG false .add (.lst [a, b, c, d, e, f, g, h, i]) (.lst [j, k, l]) S = .ok (.lst [a, b, c, d, e, f, g, h, i, j, k, l]) S := fun a b c d e f g h i j k l S => add_ll _ _ S (by simp)
  rw [callF_run hP.kinds rfl]
  simp only [fn__law_kinds, Z0, Z1, Z2, Z3, Z4, Z5, Z6, Z7, Z8, Z9, Za, Zb, Zd, Ze, Zf, Zg, Zh, Zi, Zj, Zk, Zl, Zm, Zn, Zo, Zp, Zq, Zr, Zs, Zt, Zu, Zv, Zw, Zx, Zy, Zz, ZA, ZB, ZC, ZD, ZE, ZF, ZG, ZH, ZI, ZJ, ZK, ZL, ZM, ZN, ZO, ZP, ZQ, ZR, ZS, ZT, ZU, ZV, ZW, ZX, ZY, ZZ, Z00, Z01, Z02, Z03, Z04, Z05, Z06, Z07, Z08, Z09, Z0a, Z0b, Z0c, Z0d, Z0e, Z0f, Z0g, Z0h, Z0i, Z0j, Z0k, Z0l, Z0m, Z0n, Z0o, Z0p, Z0q, Z0r, Z0s, Z0t, Z0u, Z0v, Z0w, Z0x, Z0y, Z0z, Z0A, Z0B, Z0C, Z0D, Z0E, Z0F, Z0G, Z0H, Z0I, Z0J, Z0K, Z0L, Z0M, Z0N, Z0O, Z0P, Z0Q, Z0R, Z0S, Z0T, Z0U, Z0V, Z0W, Z0X, Z0Y, Z0Z, Z10, Z11, Z12, Z13, Z14, Z15, Z16, Z17, Z18, Z19, Z1a, Z1b, Z1c, Z1d, Z1e, Z1f, Z1g, Z1h, Z1i, Z1j, Z1k, Z1l, Z1m, Z1n, Z1o, Z1p, Z1q, Z1r, Z1s, Z1t, Z1u, Z1v, Z1w, Z1x, Z1y, Z1z, Z1A, Z1B, Z1C, Z1D, Z1E, Z1F, Z1G, Z1H, Z1I, Z1J, Z1K, Z1L, Z1M, Z1N, Z1O, Z1P, Z1Q, Z1R, Z1S, Z1T, Z1U, Z1V, Z1W, Z1X, Z1Y, Z1Z, Z20, Z21, Z22, Z23, Z24, Z25, Z26, Z27, Z28, Z29, Z2a, Z2b, Z2c, Z2d, Z2e, Z2f, Z2g, Z2h, Z2i, List.map_cons, List.map_nil, List.replicate, List.cons_append, List.nil_append, Nat.reduceSub, mk3, a3, a6, a9, List.any_cons, List.any_nil, Bool.or_false]
  exact fin_same rfl
def alB : List Stm := [.asg (.var 3) (.lst false [(.isx (.var 2) [.bas "ValueError"]), (.isx (.var 2) [.bas "LookupError"]), (.isx (.var 2) [.bas "RuntimeError"])]), .asg (.var 5) (.comp false (.cmp .eq (.var 4) (.idx (.lst false [(.lit (.int 0)), (.lit (.int 0)), (.lit (.int 0)), (.lit (.int 0)), (.lit (.int 1)), (.lit (.int 1)), (.lit (.int 1)), (.lit (.int 1)), (.lit (.int 1)), (.lit (.int 2)), (.lit (.int 2)), (.lit (.int 3))]) (.var 1))) (.var 4) (.range [(.lit (.int 4))]) [] [4]), .ife (.disj [(.cmp .ne (.bin false .add (.var 3) (.lst false [(.isx (.var 2) [.bas "OverflowError"])])) (.var 5)), (.cmp .ne (.call false "_law_kinds" [(.var 2)]) (.comp false (.cmp .eq (.var 4) (.var 1)) (.var 4) (.range [(.lit (.int 12))]) [] [4]))]) [.ret (.lit (.bl false))] [], .ife (.isx (.var 2) [.bas "IndexError", .bas "KeyError", .bas "NotImplementedError"]) [.ret (.lit (.bl false))] []]
def numA : List Int := [0, 0, 0, 0, 1, 1, 1, 1, 1, 2, 2, 3]
def bass (c : String) : List Bool := ["ValueError", "LookupError", "RuntimeError", "OverflowError"].map fun t => subX c (.bas t)
theorem d_bls (n : Nat) (S : Hs) (l : List Bool) : toD (n + 1) S (.lst (l.map VV.bl)) = some (.list (l.map PyData.bool)) := by
  have : mapO (toD n S) (l.map VV.bl) = some (l.map PyData.bool) := by
    induction l with
    | nil => rfl
    | cons a l ih => exact mapO_cons (by cases n <;> rfl) ih
  show (mapO (toD n S) (l.map VV.bl)).map PyData.list = _
  rw [this]
  rfl
theorem ne_bls (S : Hs) (l : List Bool) : cmpV S .ne (.lst (l.map VV.bl)) (.lst (l.map VV.bl)) = some false := ne_data (d_bls 11 S l) (d_bls 11 S l) fun z h => nomatch h
theorem al_turn (hP : Has P) (n : Nat) {c : String} {v x0 : VV} {j : Nat} {d : Int} (hj : j < 12) (hd : numA[j]? = some d) (h1 : bass c = (List.range 4).map fun (k : Nat) => decide ((k : Int) = d)) (h2 : knds c = (List.range 12).map fun (k : Nat) => decide ((k : Int) = (j : Nat)))
    (h3 : ([.bas "IndexError", .bas "KeyError", .bas "NotImplementedError"] : List Xt).any (subX c) = false) (o1 o2 o3 o4 o5 : Option VV) : ∃ p3 p5, stepF (callF P (n + 2)) (.tup [.var 1, .var 2]) alB (.tup [.int (j : Nat), .exc c v]) [some x0, o1, o2, o3, o4, o5] T = .ok (.nx [some x0, some (.int (j : Nat)), some (.exc c v), p3, o4, p5]) T := by
  have mk1 : ∀ (a : VV) S, mkL false [a] S = .ok (.lst [a]) S := fun a S => mkL_f (sz (by simp))
  have mk3 : ∀ (a b d : VV) S, mkL false [a, b, d] S = .ok (.lst [a, b, d]) S := fun a b d S => mkL_f (sz (by simp))
  have nums : ∀ S, mkL false [.int 0, .int 0, .int 0, .int 0, .int 1, .int 1, .int 1, .int 1, .int 1, .int 2, .int 2, .int 3] S = .ok (.lst (numA.map .int)) S := fun S => mkL_f (xs := numA.map .int) (by decide)
  have ix : ∀ S, gIdx (.lst (numA.map .int)) (.int (j : Nat)) S = .ok (.int d) S := fun S => by
    have : ∀ j, j < 12 → ∀ d, numA[j]? = some d → gIdx (.lst (numA.map .int)) (.int (j : Nat)) S = .ok (.int d) S := by
      intro j hj d hd
      have e : j = 0 ∨ j = 1 ∨ j = 2 ∨ j = 3 ∨ j = 4 ∨ j = 5 ∨ j = 6 ∨ j = 7 ∨ j = 8 ∨ j = 9 ∨ j = 10 ∨ j = 11 := by omega
      rcases e with rfl | rfl | rfl | rfl | rfl | rfl | rfl | rfl | rfl | rfl | rfl | rfl <;> (cases hd; rfl)
    exact this j hj d hd
  have c1 : ∀ (p3 p5 : Option VV) S, compL [] (stepC (callF P (n + 2)) (.cmp .eq (.var 4) (.idx (.lst false [(.lit (.int 0)), (.lit (.int 0)), (.lit (.int 0)), (.lit (.int 0)), (.lit (.int 1)), (.lit (.int 1)), (.lit (.int 1)), (.lit (.int 1)), (.lit (.int 1)), (.lit (.int 2)), (.lit (.int 2)), (.lit (.int 3))]) (.var 1))) (.var 4) [] [4] [some x0, some (.int (j : Nat)), some (.exc c v), p3, o4, p5]) ((List.range 4).map fun (i : Nat) => VV.int i) S = .ok ((List.range 4).map fun (k : Nat) => VV.bl (decide ((k : Int) = d))) S := fun p3 p5 S => compL_map rfl fun k hk => by
    simp only [stepC, ZU, Z05, Z04, Z02, Z03, Zz, if_true, Zg, Z4, Z00, Z01, Z0, Z1, Zm, Zl, Zu, Zt, Z5, Z8, nums, ix, Z0j, Z0o, ZZ, Z2]
  have c2 : ∀ (p3 p5 : Option VV) S, compL [] (stepC (callF P (n + 2)) (.cmp .eq (.var 4) (.var 1)) (.var 4) [] [4] [some x0, some (.int (j : Nat)), some (.exc c v), p3, o4, p5]) ((List.range 12).map fun (i : Nat) => VV.int i) S = .ok ((List.range 12).map fun (k : Nat) => VV.bl (decide ((k : Int) = (j : Nat)))) S := fun p3 p5 S => compL_map rfl fun k hk => by
    simp only [stepC, ZU, Z05, Z04, Z02, Z03, Zz, if_true, Zg, Z4, Z00, Z01, Z0, Z1, Z0j, Z0o, ZZ, Z2]
  have m1 : ∀ S, mkL false ((List.range 4).map fun (k : Nat) => VV.bl (decide ((k : Int) = d))) S = .ok (.lst ((bass c).map .bl)) S := fun S => by
    rw [h1, List.map_map]
    exact mkL_f (sz (by simp))
  have m2 : ∀ S, mkL false ((List.range 12).map fun (k : Nat) => VV.bl (decide ((k : Int) = (j : Nat)))) S = .ok (.lst ((knds c).map .bl)) S := fun S => by
    rw [h2, List.map_map]
    exact mkL_f (sz (by simp))
  have rg4 : ∀ S, gRange [.int 4] S = .ok ((List.range 4).map fun (i : Nat) => VV.int i, []) S := fun S => rng_nat (n := 4) (by decide)
  have rg12 : ∀ S, gRange [.int 12] S = .ok ((List.range 12).map fun (i : Nat) => VV.int i, []) S := fun S => rng_nat (n := 12) (by decide)
  have ba : ∀ S, binG false .add (.lst [.bl (subX c (.bas "ValueError")), .bl (subX c (.bas "LookupError")), .bl (subX c (.bas "RuntimeError"))]) (.lst [.bl (subX c (.bas "OverflowError"))]) S = .ok (.lst ((bass c).map .bl)) S := fun S => add_ll _ _ S (by simp)
  have kd := kinds_ok (T := T) hP (n + 1) c v
  have an : ∀ t, List.any [t] (subX c) = subX c t := fun t => by simp
  refine ⟨some (.lst [.bl (subX c (.bas "ValueError")), .bl (subX c (.bas "LookupError")), .bl (subX c (.bas "RuntimeError"))]), some (.lst ((bass c).map .bl)), ?_⟩
  unfold stepF alB
  simp only [ZV, ZY, ZU, ZX, Z02, Z03, ZG, ZN, Zl, Zu, Zt, Z1c, Z1d, Z4, Z00, Z01, Z0, Z1, ZZ, Z2, mk3, mk1, an, ZM, ZH, Zs, ZB, Z5, Z8, rg4, rg12, c1, c2, Z3, m1, m2, ZS, Zf, Zy, Zx, Zg, Za, ba, Z0j, ne_bls, Z06, if_false, Bool.false_eq_true, Zo, kd, h3, ZF]
def enu : Nat → List VV → List VV
  | _, [] => []
  | j, x :: xs => .tup [.int (j : Nat), x] :: enu (j + 1) xs
def aT : Str := { cps := #[97] }
def made (m : Int) : List (String × VV) := [("BadText", .str aT), ("BadRow", .int m), ("Slips", .tup [.int 0, .int 1, .int m]), ("NotThere", .lst [.int m]), ("NoBoat", .int m), ("NoLine", .tup [.int m, .int 0]), ("NoCrew", .int m),
  ("NoRow", .int m), ("NoDeed", .int m), ("Behind", .int m), ("NotEnough", .int m), ("TooMany", .int m)]
def mV (p : String × VV) : VV := .exc p.1 p.2
theorem turns (hP : Has P) (n : Nat) (x0 : VV) : ∀ (l : List (String × VV)) (j : Nat) (o1 o2 o3 o4 o5 : Option VV), (∀ i, i < l.length → ∃ c v d, l[i]? = some (c, v) ∧ j + i < 12 ∧ numA[j + i]? = some d ∧ (bass c = (List.range 4).map fun (k : Nat) => decide ((k : Int) = d)) ∧ (knds c = (List.range 12).map fun (k : Nat) => decide ((k : Int) = ((j + i : Nat) : Int))) ∧ ([.bas "IndexError", .bas "KeyError", .bas "NotImplementedError"] : List Xt).any (subX c) = false) →
    ∃ σ, forL [] (stepF (callF P (n + 2)) (.tup [.var 1, .var 2]) alB) (enu j (l.map mV)) [some x0, o1, o2, o3, o4, o5] T = .ok (.nx (some x0 :: σ)) T
  | [], j, o1, o2, o3, o4, o5, _ => ⟨_, rfl⟩
  | p :: l, j, o1, o2, o3, o4, o5, h => by
    obtain ⟨c, v, d, e, h1, h2, h3, h4, h5⟩ := h 0 (Nat.succ_pos _)
    obtain rfl : p = (c, v) := by simpa using e
    obtain ⟨p3, p5, e1⟩ := al_turn (T := T) (v := v) (x0 := x0) hP n h1 h2 h3 h4 h5 o1 o2 o3 o4 o5
    simp only [Nat.add_zero] at e1
    obtain ⟨σ, e2⟩ := turns hP n x0 l (j + 1) (some (.int (j : Nat))) (some (.exc c v)) p3 o4 p5 fun i hi => by
      obtain ⟨c', v', d', e', g1, g2, g3, g4, g5⟩ := h (i + 1) (Nat.succ_lt_succ hi)
      have ej : j + 1 + i = j + (i + 1) := by omega
      rw [ej]
      exact ⟨c', v', d', by simpa using e', g1, g2, g3, g4, g5⟩
    refine ⟨σ, ?_⟩
    show forL [] _ (.tup [.int (j : Nat), .exc c v] :: enu (j + 1) (l.map mV)) _ T = _
    unfold forL
    rw [if_pos (show gokB T [] = true from rfl), e1, Z0]
    exact e2
theorem facts : ∀ i : Nat, i < 12 → ∃ c v d, (made 0)[i]? = some (c, v) ∧ numA[i]? = some d ∧ (bass c = (List.range 4).map fun (k : Nat) => decide ((k : Int) = d)) ∧ (knds c = (List.range 12).map fun (k : Nat) => decide ((k : Int) = (i : Int))) ∧ ([.bas "IndexError", .bas "KeyError", .bas "NotImplementedError"] : List Xt).any (subX c) = false := by
  intro i hi
  have e : i = 0 ∨ i = 1 ∨ i = 2 ∨ i = 3 ∨ i = 4 ∨ i = 5 ∨ i = 6 ∨ i = 7 ∨ i = 8 ∨ i = 9 ∨ i = 10 ∨ i = 11 := by omega
  rcases e with rfl | rfl | rfl | rfl | rfl | rfl | rfl | rfl | rfl | rfl | rfl | rfl <;> exact ⟨_, _, _, rfl, rfl, by decide +kernel, by decide +kernel, by decide +kernel⟩
theorem made_c (m : Int) {i : Nat} {c : String} {v : VV} (h : (made 0)[i]? = some (c, v)) (hi : i < 12) : ∃ v', (made m)[i]? = some (c, v') := by
  have e : (made 0).map (·.1) = (made m).map (·.1) := rfl
  have e1 : ((made 0).map (·.1))[i]? = some c := by rw [List.getElem?_map, h]; rfl
  rw [e, List.getElem?_map] at e1
  obtain ⟨⟨c', v'⟩, e2, e3⟩ := Option.map_eq_some_iff.mp e1
  have e3 : c' = c := e3
  subst e3
  exact ⟨v', e2⟩
theorem alone_ok (hP : Has P) (n : Nat) (m : Int) : callF P (n + 3) false "_law_are_alone" [.lst ((made m).map mV)] T = .ok (.bl true) T := by
  obtain ⟨σ, e⟩ := turns (T := T) hP n (.lst ((made m).map mV)) (made m) 0 none none none none none fun i hi => by
    have hi : i < 12 := hi
    obtain ⟨c, v, d, e, h2, h3, h4, h5⟩ := facts i hi
    obtain ⟨v', e'⟩ := made_c m e hi
    rw [Nat.zero_add]
    exact ⟨c, v', d, e', hi, h2, h3, h4, h5⟩
  have se : ∀ S, gEnum (.lst ((made m).map mV)) S = .ok (enu 0 ((made m).map mV), []) S := fun S => rfl
  have hb : fn__law_are_alone.body = [.forr (.tup [(.var 1), (.var 2)]) (.enum (.var 0)) alB, .ret (.lit (.bl true))] := rfl
  rw [callF_run hP.alone rfl]
  show (exs (callF P (n + 2)) fn__law_are_alone.body [some (.lst ((made m).map mV)), none, none, none, none, none] T).bind _ = _
  rw [hb]
  simp only [ZG, ZT, ZD, Z4, Z00, Z0, Z1, se, e, ZM, ZH, ZR, Z5, Z7, ZI]
  exact fin_same rfl
def dueA (m : Int) : List VV := [.str aT, .int m, .tup [.int 0, .int 1, .int m], .lst [.int m], .int m, .tup [.int m, .int 0], .int m, .int m, .int m, .int m, .int m, .int m]
def dueD (m : Int) : List PyData := [.str aT, .int m, .tuple [.int 0, .int 1, .int m], .list [.int m], .int m, .tuple [.int m, .int 0], .int m, .int m, .int m, .int m, .int m, .int m]
theorem d_due (m : Int) : mapO (toD 11 T) (dueA m) = some (dueD m) := by
  have e : toD 11 T (.str aT) = some (.str aT) := by
    show (if PyData.strOk aT then some (PyData.str aT) else none) = _
    rw [if_pos (show PyData.strOk aT = true by decide +kernel)]
  exact mapO_cons e rfl
theorem int_txt (x : Str) {m : Int} (h : PySem.intText? x = some m) (hl : x.length ≤ 640) : biV false .int [.str x] T = .ok (.int m) T := by
  show (match PySem.intText? x with
    | some n => if x.length ≤ 640 then Out.ok (VV.int n) T else .bad
    | none => .bad) = _
  rw [h]
  exact if_pos hl
theorem str_fld (m : Int) (h0 : 0 ≤ m) (h9 : m < 9) : ∃ x : Str, ∀ T : Hs, biV false .str [.int m] T = .ok (.str x) T ∧ biV false .int [.str x] T = .ok (.int m) T := by
  refine ⟨(toString m : String), fun T => ⟨if_pos (by omega), ?_⟩⟩
  have e : m = 0 ∨ m = 1 ∨ m = 2 ∨ m = 3 ∨ m = 4 ∨ m = 5 ∨ m = 6 ∨ m = 7 ∨ m = 8 := by omega
  rcases e with rfl | rfl | rfl | rfl | rfl | rfl | rfl | rfl | rfl <;> exact int_txt _ (by decide +kernel) (by decide +kernel)
theorem gf_of {c : String} {f : Str} {v : VV} {S : Hs} (h : xF c = f) : gFld f (.exc c v) S = .ok v S := by
  show (if xF c = f then Out.ok v S else .bad) = _
  rw [if_pos h]
theorem gBadText (v : VV) (S : Hs) : gFld ({ cps := #[116, 101, 120, 116] } : Str) (.exc "BadText" v) S = .ok v S := gf_of (by decide +kernel)
theorem gBadRow (v : VV) (S : Hs) : gFld ({ cps := #[110, 117, 109, 98, 101, 114] } : Str) (.exc "BadRow" v) S = .ok v S := gf_of (by decide +kernel)
theorem gSlips (v : VV) (S : Hs) : gFld ({ cps := #[108, 105, 110, 101] } : Str) (.exc "Slips" v) S = .ok v S := gf_of (by decide +kernel)
theorem gNotThere (v : VV) (S : Hs) : gFld ({ cps := #[114, 111, 119] } : Str) (.exc "NotThere" v) S = .ok v S := gf_of (by decide +kernel)
theorem gNoBoat (v : VV) (S : Hs) : gFld ({ cps := #[98, 111, 97, 116] } : Str) (.exc "NoBoat" v) S = .ok v S := gf_of (by decide +kernel)
theorem gNoLine (v : VV) (S : Hs) : gFld ({ cps := #[112, 97, 105, 114] } : Str) (.exc "NoLine" v) S = .ok v S := gf_of (by decide +kernel)
theorem gNoCrew (v : VV) (S : Hs) : gFld ({ cps := #[110, 117, 109, 98, 101, 114] } : Str) (.exc "NoCrew" v) S = .ok v S := gf_of (by decide +kernel)
theorem gNoRow (v : VV) (S : Hs) : gFld ({ cps := #[110, 117, 109, 98, 101, 114] } : Str) (.exc "NoRow" v) S = .ok v S := gf_of (by decide +kernel)
theorem gNoDeed (v : VV) (S : Hs) : gFld ({ cps := #[109, 97, 110, 121] } : Str) (.exc "NoDeed" v) S = .ok v S := gf_of (by decide +kernel)
theorem gBehind (v : VV) (S : Hs) : gFld ({ cps := #[98, 111, 97, 116] } : Str) (.exc "Behind" v) S = .ok v S := gf_of (by decide +kernel)
theorem gNotEnough (v : VV) (S : Hs) : gFld ({ cps := #[98, 111, 97, 116] } : Str) (.exc "NotEnough" v) S = .ok v S := gf_of (by decide +kernel)
theorem gTooMany (v : VV) (S : Hs) : gFld ({ cps := #[109, 97, 110, 121] } : Str) (.exc "TooMany" v) S = .ok v S := gf_of (by decide +kernel)
theorem mkf {xs : List VV} {S : Hs} (h : xs.length ≤ 1000) : mkL false xs S = .ok (.lst xs) S := mkL_f (sz h)
theorem mkt {xs : List VV} {S : Hs} (h : xs.length ≤ 1000) : mkL true xs S = .ok (.ref S.length) (S ++ [.lst xs]) := mkL_t (sz h)
theorem mktu {xs : List VV} {S : Hs} (h : xs.length ≤ 1000) : mkT xs S = .ok (.tup xs) S := mkT_k (sz h)
theorem kid_new (S : Hs) (xs : List VV) : kid (S ++ [.lst xs]) S.length = some xs := kid_of (by rw [List.getElem?_append_right (Nat.le_refl _), Nat.sub_self]; rfl)
theorem wgt_due {m : Int} (h0 : 0 ≤ m) (h9 : m < 9) : wgt (.list (dueD m)) ≤ 400000 := by
  have e : m = 0 ∨ m = 1 ∨ m = 2 ∨ m = 3 ∨ m = 4 ∨ m = 5 ∨ m = 6 ∨ m = 7 ∨ m = 8 := by omega
  rcases e with rfl | rfl | rfl | rfl | rfl | rfl | rfl | rfl | rfl <;> decide +kernel
theorem wgt_ints {m : Int} (h0 : 0 ≤ m) (h9 : m < 9) : wgt (.list (List.replicate 12 (.int m))) ≤ 400000 := by
  have e : m = 0 ∨ m = 1 ∨ m = 2 ∨ m = 3 ∨ m = 4 ∨ m = 5 ∨ m = 6 ∨ m = 7 ∨ m = 8 := by omega
  rcases e with rfl | rfl | rfl | rfl | rfl | rfl | rfl | rfl | rfl <;> decide +kernel
def L7 (m : Int) : List VV := (dueA m).take 7
def L5 (m : Int) : List VV := (dueA m).drop 7
theorem right_ok (hP : Has P) (n : Nat) : Right P (n + 5) := by
  intro s k bx hk
  obtain ⟨m, b1, h0, h9, e1⟩ := draw_t (s := s) (k := k) (b := bx) (ex := []) hP.take (n + 3) false hk 9 ⟨by decide, by decide⟩
  obtain ⟨x, hx⟩ := str_fld m h0 h9
  refine ⟨b1, ?_⟩
  rw [callF_run hP.right rfl]
  show (exs (callF P (n + 4)) fn__law_right.body [some (.ref k), none, none, none, none] (St s k bx [])).bind _ = _
  obtain ⟨U, hU⟩ : ∃ U, St s k b1 [] = U := ⟨_, rfl⟩
  rw [hU] at e1
  obtain ⟨L, hL⟩ : ∃ L, (made m).map mV = L := ⟨_, rfl⟩
  have lL : ∀ S, mkL false [VV.exc "BadText" (.str aT), .exc "BadRow" (.int m), .exc "Slips" (.tup [.int 0, .int 1, .int m]), .exc "NotThere" (.lst [.int m]), .exc "NoBoat" (.int m), .exc "NoLine" (.tup [.int m, .int 0]), .exc "NoCrew" (.int m)] S = .ok (.lst (L.take 7)) S := fun S => by
    rw [← hL]
    exact mkf (by simp)
  have lM : ∀ S, mkL false [VV.exc "NoRow" (.int m), .exc "NoDeed" (.int m), .exc "Behind" (.int m), .exc "NotEnough" (.int m), .exc "TooMany" (.int m)] S = .ok (.lst (L.drop 7)) S := fun S => by
    rw [← hL]
    exact mkf (by simp)
  have aL : ∀ S, binG false .add (.lst (L.take 7)) (.lst (L.drop 7)) S = .ok (.lst L) S := fun S => by
    rw [add_ll _ _ _ (by rw [← hL]; simp [made]), List.take_append_drop]
  have i0 : ∀ S, gIdx (.lst L) (.int 0) S = .ok (.exc "BadText" (.str aT)) S := fun S => by rw [← hL]; rfl
  have i1 : ∀ S, gIdx (.lst L) (.int 1) S = .ok (.exc "BadRow" (.int m)) S := fun S => by rw [← hL]; rfl
  have i2 : ∀ S, gIdx (.lst L) (.int 2) S = .ok (.exc "Slips" (.tup [.int 0, .int 1, .int m])) S := fun S => by rw [← hL]; rfl
  have i3 : ∀ S, gIdx (.lst L) (.int 3) S = .ok (.exc "NotThere" (.lst [.int m])) S := fun S => by rw [← hL]; rfl
  have i4 : ∀ S, gIdx (.lst L) (.int 4) S = .ok (.exc "NoBoat" (.int m)) S := fun S => by rw [← hL]; rfl
  have i5 : ∀ S, gIdx (.lst L) (.int 5) S = .ok (.exc "NoLine" (.tup [.int m, .int 0])) S := fun S => by rw [← hL]; rfl
  have i6 : ∀ S, gIdx (.lst L) (.int 6) S = .ok (.exc "NoCrew" (.int m)) S := fun S => by rw [← hL]; rfl
  have i7 : ∀ S, gIdx (.lst L) (.int 7) S = .ok (.exc "NoRow" (.int m)) S := fun S => by rw [← hL]; rfl
  have i8 : ∀ S, gIdx (.lst L) (.int 8) S = .ok (.exc "NoDeed" (.int m)) S := fun S => by rw [← hL]; rfl
  have i9 : ∀ S, gIdx (.lst L) (.int 9) S = .ok (.exc "Behind" (.int m)) S := fun S => by rw [← hL]; rfl
  have i10 : ∀ S, gIdx (.lst L) (.int 10) S = .ok (.exc "NotEnough" (.int m)) S := fun S => by rw [← hL]; rfl
  have i11 : ∀ S, gIdx (.lst L) (.int 11) S = .ok (.exc "TooMany" (.int m)) S := fun S => by rw [← hL]; rfl
  have tu3 : ∀ (a b c : VV) S, mkT [a, b, c] S = .ok (.tup [a, b, c]) S := fun a b c S => mktu (by simp)
  have tu2 : ∀ (a b : VV) S, mkT [a, b] S = .ok (.tup [a, b]) S := fun a b S => mktu (by simp)
  have ml1 : ∀ (a : VV) S, mkL false [a] S = .ok (.lst [a]) S := fun a S => mkf (by simp)
  have aD : ∀ S, mkL false [.str aT, .int m, .tup [.int 0, .int 1, .int m], .lst [.int m], .int m, .tup [.int m, .int 0], .int m, .int m, .int m, .int m, .int m, .int m] S = .ok (.lst (dueA m)) S := fun S => mkf (xs := dueA m) (by simp [dueA])
  have t1 : ∀ S, mkL true [.str aT, .int m, .tup [.int 0, .int 1, .int m], .lst [.int m], .int m, .tup [.int m, .int 0], .int m] S = .ok (.ref S.length) (S ++ [.lst (L7 m)]) := fun S => mkt (xs := L7 m) (by simp [L7, dueA])
  have t2 : ∀ S, mkL false [.int m, .int m, .int m, .int m, .int m] S = .ok (.lst (L5 m)) S := fun S => mkf (xs := L5 m) (by simp [L5, dueA])
  obtain ⟨U1, hU1⟩ : ∃ U1, U ++ [Ob.lst (L7 m)] = U1 := ⟨_, rfl⟩
  obtain ⟨U2, hU2⟩ : ∃ U2, U1 ++ [Ob.lst (dueA m)] = U2 := ⟨_, rfl⟩
  have a1 : binG true .add (.ref U.length) (.lst (L5 m)) U1 = .ok (.ref U1.length) U2 := by
    rw [add_rl (xs := L7 m) (by rw [← hU1]; exact kid_new _ _) (by simp [L7, L5, dueA]), ← hU2]
    rfl
  have k2 : kid U2 U1.length = some (dueA m) := by rw [← hU2]; exact kid_new _ _
  have al := alone_ok (T := U2) hP (n + 1) m
  rw [hL] at al
  have s1 : callF P (n + 4) false "_law_same" [.ref U1.length, .lst (dueA m)] U2 = .ok (.bl true) U2 := same_ok hP.same (n + 3) (d := .list (dueD m)) (by
    show (match kid U2 U1.length with
      | some xs => (mapO (toD 11 U2) xs).map PyData.list
      | none => none) = _
    rw [k2]
    show (mapO (toD 11 U2) (dueA m)).map PyData.list = _
    rw [d_due]
    rfl) (by
    show (mapO (toD 11 U2) (dueA m)).map PyData.list = _
    rw [d_due]
    rfl) (wgt_due h0 h9)
  have aT' : ({ cps := #[97] } : Str) = aT := rfl
  have bd : fn__law_right.body = fn__law_right.body.take 7 ++ fn__law_right.body.drop 7 := (List.take_append_drop 7 _).symm
  have st1 : exs (callF P (n + 4)) (fn__law_right.body.take 7) [some (.ref k), none, none, none, none] (St s k bx []) = .ok (.nx [some (.ref k), some (.int m), some (.lst L), some (.ref U1.length), some (.lst (dueA m))]) U2 := by
    simp only [fn__law_right, List.take, ZG, ZN, Zo, Zu, Zt, Z4, Z00, Z01, Z5, Z8, Z9, aT', Z0, Z1, e1, Z2, ZU, Z02, Z03, ZZ, ZM, ZH, Zl, Z0a, Zk, tu3, tu2, ml1, lL, lM, Za, aL, Z1a, Zm, i0, i1, i2, i3, i4, i5, i6, i7, i8, i9, i10, i11, gBadText, gBadRow, gSlips, gNotThere, gNoBoat, gNoLine, gNoCrew, gNoRow, gNoDeed, gBehind, gNotEnough, gTooMany, aD, t1, t2, hU1, a1, hU2, ZS, Zf, Zy, Zx, Zd, al, s1, Z06, Bool.not_true, if_false, Bool.false_eq_true, ZF]
  rw [bd, exs_app, st1, Z0, ZH]
  have z2 : ∀ S, gIdx (.tup [.int 0, .int 1, .int m]) (.int 2) S = .ok (.int m) S := fun S => rfl
  have z1 : ∀ S, gIdx (.lst [.int m]) (.int 0) S = .ok (.int m) S := fun S => rfl
  have z0 : ∀ S, gIdx (.tup [.int m, .int 0]) (.int 0) S = .ok (.int m) S := fun S => rfl
  have ml3 : ∀ (a b c : VV) S, mkL false [a, b, c] S = .ok (.lst [a, b, c]) S := fun a b c S => mkf (by simp)
  have ml2 : ∀ (a b : VV) S, mkL false [a, b] S = .ok (.lst [a, b]) S := fun a b S => mkf (by simp)
  have t3 : mkL true [.int m, .int m, .int m] U2 = .ok (.ref U2.length) (U2 ++ [.lst (List.replicate 3 (.int m))]) := mkt (by simp)
  obtain ⟨U3, hU3⟩ : ∃ U3, U2 ++ [Ob.lst (List.replicate 3 (.int m))] = U3 := ⟨_, rfl⟩
  obtain ⟨U4, hU4⟩ : ∃ U4, U3 ++ [Ob.lst (List.replicate 6 (.int m))] = U4 := ⟨_, rfl⟩
  obtain ⟨U5, hU5⟩ : ∃ U5, U3 ++ [Ob.lst (List.replicate 7 (.int m))] = U5 := ⟨_, rfl⟩
  obtain ⟨U6, hU6⟩ : ∃ U6, U5 ++ [Ob.lst (List.replicate 10 (.int m))] = U6 := ⟨_, rfl⟩
  have a3 : binG true .add (.ref U2.length) (.lst [.int m, .int m, .int m]) U3 = .ok (.ref U3.length) U4 := by
    rw [add_rl (xs := List.replicate 3 (.int m)) (by rw [← hU3]; exact kid_new _ _) (by simp), ← hU4]
    rfl
  have k4 : kid U4 U3.length = some (List.replicate 6 (.int m)) := by rw [← hU4]; exact kid_new _ _
  have bt : bmTy .append (.ref U3.length) U4 = some () := bm_ty k4
  have ap : bmV .append (.ref U3.length) [.int m] U4 = .ok .non U5 := by
    rw [bm_app k4 (by simp [szL]), ← hU4, ← hU5, List.set_append_right _ _ (Nat.le_refl _), Nat.sub_self]
    rfl
  have k5 : kid U5 U3.length = some (List.replicate 7 (.int m)) := by rw [← hU5]; exact kid_new _ _
  have a5 : binG true .add (.ref U3.length) (.lst [.int m, .int m, .int m]) U5 = .ok (.ref U5.length) U6 := by
    rw [add_rl k5 (by simp), ← hU6]
    rfl
  have k6 : kid U6 U5.length = some (List.replicate 10 (.int m)) := by rw [← hU6]; exact kid_new _ _
  have a6 : binG false .add (.ref U5.length) (.lst [.int m, .int m]) U6 = .ok (.lst (List.replicate 12 (.int m))) U6 := by
    rw [add_rf k6 (by simp)]
    rfl
  have mu : binG false .mul (.lst [.int m]) (.int 12) U6 = .ok (.lst (List.replicate 12 (.int m))) U6 := by
    have e : binG false .mul (.lst [.int m]) (.int 12) U6 = (if -(2 ^ 62 : Int) < (12 : Int) ∧ (12 : Int) < 2 ^ 62 ∧ [VV.int m].length * (12 : Int).toNat ≤ szL then mkL false (List.replicate (12 : Int).toNat [VV.int m]).flatten U6 else .bad) := id rfl
    rw [e, if_pos ⟨by decide, by decide, by show 1 * 12 ≤ 16777216; decide⟩]
    exact mkf (xs := List.replicate 12 (.int m)) (by simp)
  have s2 : callF P (n + 4) false "_law_same" [.lst (List.replicate 12 (.int m)), .lst (List.replicate 12 (.int m))] U6 = .ok (.bl true) U6 := same_ok hP.same (n + 3) (d := .list (List.replicate 12 (.int m))) rfl rfl (wgt_ints h0 h9)
  have hx1 := fun S => (hx S).1
  have hx2 := fun S => (hx S).2
  have hd : fn__law_right.body.drop 7 = fn__law_right.body.drop 7 := rfl
  simp only [fn__law_right, List.drop, ZG, ZN, Zo, Zu, Zt, Z4, Z00, Z01, Z5, Z8, Z0, Z1, Z2, ZU, Z02, Z03, ZZ, ZM, ZH, Zl, Z0a, Zk, tu3, tu2, ml1, ml2, ml3, Za, Z1a, Zm, Zq, hx1, hx2, z0, z1, z2, gBadText, gBadRow, gSlips, gNotThere, gNoBoat, gNoLine, gNoCrew, gNoRow, gNoDeed, gBehind, gNotEnough, gTooMany, t3, hU3, a3, ZQ, Zr, bt, ap, a5, a6, mu, s2, ZR, ZI]
  have eU : U6 = St s k b1 ([] ++ [Ob.lst (L7 m), Ob.lst (dueA m), Ob.lst (List.replicate 3 (.int m)), Ob.lst (List.replicate 7 (.int m)), Ob.lst (List.replicate 10 (.int m))]) := by
    rw [← hU6, ← hU5, ← hU3, ← hU2, ← hU1, ← hU]
    simp [St]
  rw [eU]
  exact fin_boxes hk rfl _
theorem law_ok (hP : Has P) (n : Nat) (zs : List Int) (hz : zs.length ≤ 63) : ∃ S, callF P (n + 6) false "law" [.scr (zs.map .int)] [] = .ok (.bl true) S :=
  lawT_ok (u := 3) (t := 1) hP.cells hP.box hP.law ⟨by decide, by decide⟩ (by decide) (right_ok hP n) zs hz
end
end Tw.K66
set_option Elab.async false
set_option linter.all false
set_option maxRecDepth 100000
set_option maxHeartbeats 0
namespace K66
open PySem PySem.Spec PyProof.Rows Tw L2
theorem c__law_box : cSs 300 (f__law_box.cn (fs.map (·.sg)) (xs.map (·.c)) cs) f__law_box.d.body = some Tw.fn__law_box.body := by kernel_rfl
theorem c__law_take : cSs 300 (f__law_take.cn (fs.map (·.sg)) (xs.map (·.c)) cs) f__law_take.d.body = some Tw.fn__law_take.body := by kernel_rfl
theorem c__law_cells : cSs 300 (f__law_cells.cn (fs.map (·.sg)) (xs.map (·.c)) cs) f__law_cells.d.body = some Tw.fn__law_cells.body := by kernel_rfl
theorem c__law_same : cSs 300 (f__law_same.cn (fs.map (·.sg)) (xs.map (·.c)) cs) f__law_same.d.body = some Tw.fn__law_same.body := by kernel_rfl
theorem c__law_kinds : cSs 300 (f__law_kinds.cn (fs.map (·.sg)) (xs.map (·.c)) cs) f__law_kinds.d.body = some Tw.K66.fn__law_kinds.body := by kernel_rfl
theorem c__law_are_alone : cSs 300 (f__law_are_alone.cn (fs.map (·.sg)) (xs.map (·.c)) cs) f__law_are_alone.d.body = some Tw.K66.fn__law_are_alone.body := by kernel_rfl
theorem c__law_right : cSs 300 (f__law_right.cn (fs.map (·.sg)) (xs.map (·.c)) cs) f__law_right.d.body = some Tw.K66.fn__law_right.body := by kernel_rfl
theorem c_law : cSs 300 (f_law.cn (fs.map (·.sg)) (xs.map (·.c)) cs) f_law.d.body = some Tw.K66.fn_law.body := by kernel_rfl
def Pm : Pg := fun x => if x = "_law_box" then some Tw.fn__law_box else if x = "_law_take" then some Tw.fn__law_take else if x = "_law_cells" then some Tw.fn__law_cells else if x = "_law_same" then some Tw.fn__law_same else if x = "_law_kinds" then some Tw.K66.fn__law_kinds else if x = "_law_are_alone" then some Tw.K66.fn__law_are_alone else if x = "_law_right" then some Tw.K66.fn__law_right else if x = "law" then some Tw.K66.fn_law else none
theorem good : (fs.all fun f => f.good) = true := by kernel_rfl
theorem xgood : (xs.all fun x => x.good) = true := by kernel_rfl
theorem body : ∀ f ∈ fs, ∃ b, cSs 300 (f.cn (fs.map (·.sg)) (xs.map (·.c)) cs) f.d.body = some b ∧ Pm f.sg.id = some ⟨f.sg.ps.length, f.N.length, b⟩ := by
  intro f hf
  simp only [fs, List.mem_cons, List.not_mem_nil, or_false] at hf
  rcases hf with rfl | rfl | rfl | rfl | rfl | rfl | rfl | rfl
  · exact ⟨_, c__law_box, rfl⟩
  · exact ⟨_, c__law_take, rfl⟩
  · exact ⟨_, c__law_cells, rfl⟩
  · exact ⟨_, c__law_same, rfl⟩
  · exact ⟨_, c__law_kinds, rfl⟩
  · exact ⟨_, c__law_are_alone, rfl⟩
  · exact ⟨_, c__law_right, rfl⟩
  · exact ⟨_, c_law, rfl⟩
end K66
open PySem PySem.W PySem.Calls PyProof.Rows
set_option maxRecDepth 100000 in
set_option maxHeartbeats 0 in
theorem PySem.Challenge.cw_towlines_k66_refusals_made_holds : PySem.Challenge.rw_towlines_k66_refusals_made.Holds := by
  w_on; o_law
  refine HandSHeadRun.head_any (r := OpenLaw.row PySem.Challenge.rw_towlines_k66_refusals_made) (q := view (OpenLaw.row PySem.Challenge.rw_towlines_k66_refusals_made).prog [21]) (H := K66.hk) (ob := K66.ob) (M := 4000) (loose := K66.loose) (d := HandSHeadRun.topDef (OpenLaw.row PySem.Challenge.rw_towlines_k66_refusals_made).prog 21) (kwd := []) K66.ob_eq
    (by kernel_rfl) (fun s => by kernel_rfl) K66.run (by kernel_rfl) (by kernel_rfl) (by kernel_rfl) (by rfl) (by first | assumption | decide +kernel) (by decide +kernel) ⟨rfl, rfl, rfl, rfl, rfl, by decide +kernel⟩ ?hw ?hc
  case hw => w_witness2
  case hc =>
    refine Tw.law_walk (l := PySem.Challenge.rw_towlines_k66_refusals_made) (n := 63) (k := 60) (x := "_law_script") (Pm := K66.Pm) (id := "law") rfl (by decide) (by kernel_rfl) ⟨rfl, by decide, by decide⟩ ?F ?say
    case say => exact fun zs hz => Tw.K66.law_ok (by repeat' (first | rfl | constructor)) 54 zs hz
    intro w mg fa h Y G hmg0
    obtain ⟨K, KX, c1, c3, c4, c⟩ := Y
    have hmg : mg ("law" : PySem.Str) = some (.ref fa) := by
      have e : (HandSHeadRun.topDef (OpenLaw.row PySem.Challenge.rw_towlines_k66_refusals_made).prog 21).name = ("law" : PySem.Str) := by kernel_rfl
      rw [← e]
      exact hmg0
    obtain ⟨fd, hb, hF⟩ := Tw.facts_of (P := (PySem.Challenge.rw_towlines_k66_refusals_made).prog) (w := w) (f := K66.f_law) (x := "_law_script") 60 KX hmg (Tw.defs_of KX G c1 c3 c4 c K66.good K66.xgood K66.body) (by simp [K66.fs]) rfl rfl rfl
    exact ⟨K, fd, KX, hb, hF⟩
