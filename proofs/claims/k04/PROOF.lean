import PyProof.Rows.All
import Wide.All
import OpenK.AllK
import Wide.FinOn
import HandS.Exc
import HandS.ExcInit
import HandS.ExcIs
import HandS.ExcField
import HandS.TryMany
import KE.KExcInit
import KE.KExcIs
import HandS.Defaults
import HandS.IsInst
import HandS.HeadHook2
import HandS.HeadWalk
import PyProof.ReprReads
import PyProof.EqLayable
import HandS.ForMost
import HandS.Dict
import HandS.DictComp
import HandS.SetBool
import KE.KDictKeyed
import KE.KeyNested
import HandS.Deep
import HandS.Flow
import HandS.Zip
import HandS.TupAny
import HandS.TupLe
import HandS.SortInts
import HandS.Wide
import HandS.Conv
import HandS.Style
import HandS.SetFor
import HandS.Iter
import KE.GoesMore
import KE.GoesEnum
import HandS.NoneIn
import HandS.Strs
import HandS.WideMore
import HandS.Head0
import HandS.Head1
import HandS.Head2
import HandS.HeadEnd
import HandS.HeadHook1
import PySem.Challenge.RW_towlines_k04_strokes_and_whom_they_tow
set_option Elab.async false
set_option linter.all false
set_option autoImplicit false
set_option maxRecDepth 100000
/-! TwExc: the program's own errors: over any of four built-in ones, made, raised. -/
namespace Tw
open PySem PySem.Spec PyProof.Rows L2 Builtin.ObjectAttr
/-- a built-in class that an own error stands over -/
structure Bs where
  B : String
  bm : List Value
  nw : String
  ini : String
structure BsOk (b : Bs) : Prop where
  F : PySem.ExcBaseFacts b.B b.nw b.ini b.bm
  S : PySem.StoreFacts b.B b.bm "object.__setattr__" "object"
  ty : typeOf (.type b.B) = pure (.type "type")
  st : Manifest.isStub b.B = false
  bt : bootBuiltins (Str.ofString b.B) = some (.type b.B)
  ne : Str.ofString b.B ≠ "__name__"
  nd : (Str.ofString b.B == ("__debug__" : Str)) = false
  hd : PySem.W.handedIn (.builtin b.ini) = true
  fc : ∀ K : PySem.W.Frag, PySem.W.findCls K (.type b.B) (.type "type") "__init__" = some (.val (.builtin b.ini))
def bVE : Bs := ⟨"ValueError", [.type "ValueError", .type "Exception", .type "BaseException", .type "object"], "ValueError.__new__", "ValueError.__init__"⟩
def bLE : Bs := ⟨"LookupError", [.type "LookupError", .type "Exception", .type "BaseException", .type "object"], "LookupError.__new__", "LookupError.__init__"⟩
def bRE : Bs := ⟨"RuntimeError", [.type "RuntimeError", .type "Exception", .type "BaseException", .type "object"], "RuntimeError.__new__", "RuntimeError.__init__"⟩
def bOE : Bs := ⟨"OverflowError", [.type "OverflowError", .type "ArithmeticError", .type "Exception", .type "BaseException", .type "object"], "OverflowError.__new__", "OverflowError.__init__"⟩
theorem okVE : BsOk bVE := ⟨F.excBase_ValueError, F.store_ValueError, by kernel_rfl, by decide +kernel, by kernel_rfl, by decide, by decide, by decide +kernel, fun K => by kernel_rfl⟩
theorem okLE : BsOk bLE := ⟨F.excBase_LookupError, F.store_LookupError, by kernel_rfl, by decide +kernel, by kernel_rfl, by decide, by decide, by decide +kernel, fun K => by kernel_rfl⟩
theorem okRE : BsOk bRE := ⟨F.excBase_RuntimeError, F.store_RuntimeError, by kernel_rfl, by decide +kernel, by kernel_rfl, by decide, by decide, by decide +kernel, fun K => by kernel_rfl⟩
theorem okOE : BsOk bOE := ⟨F.excBase_OverflowError, F.store_OverflowError, by kernel_rfl, by decide +kernel, by kernel_rfl, by decide, by decide, by decide +kernel, fun K => by kernel_rfl⟩
/-- what the frag says of an own error's class at C, over b, with the field f -/
structure XcK (K : PySem.W.Frag) (b : Bs) (C : Addr) (f : Str) : Prop where
  ok : BsOk b
  sh : PySem.W.excInitIn K C b.bm b.nw = true
  ov : PySem.W.excOver K C b.bm = true
  dc : PySem.W.hasDictIn K C = true
  sa : PySem.W.findIn K (.ref C) "__setattr__" = some (some (.builtin "object.__setattr__"))
  no : PySem.W.findIn K (.ref C) f = some none
theorem XcK.tk {K : PySem.W.Frag} {b : Bs} {C : Addr} {f : Str} (T : XcK K b C f) : PySem.W.takerIn K C f = some none := by
  unfold PySem.W.takerIn
  rw [T.no]
  rfl
section
variable {X : Cx} {pins : List (Addr × Obj)} {σ : L2.St} {H : Hp} {s : Shared} {a C dx : Addr} {f : Str} {y : V} {u : Value} {b : Bs} {Q : Unit → Shared → Prop} {E : Value → Shared → Prop} {A : Around}
/-- the first field of a new error, on the heap -/
theorem fld_raw {hp : Heap} {g : Array GenState} {d : Drawn} {t : Nat} {os : OsState} {fv : Array Value} {tk : Tok} {R : Result → Shared → Prop} (T : XcK X.K b C f) (kin : X.K.In hp) (hx : hp.get? a = some { cls := .ref C, data := .fields fv })
    (hq : ∀ h' tk' dx, (∀ c o, c ≠ a → hp.get? c = some o → h'.get? c = some o) → hp.objs.size ≤ dx → dx ≠ a → h'.get? a = some { cls := .ref C, dict := some dx, data := .fields fv } → h'.Ns1 dx (fun z => if z = f then some u else none) → R (.ok (.ret .none)) ⟨h', g, d, tk', os⟩) :
    codeAny (model X.prog X.w) A (.call (.builtin "object.__setattr__") ⟨[.ref a, .str f tk, u], []⟩) R ⟨hp, g, d, t, os⟩ := by
  refine PySem.W.osa_openX (od := none) T.ok.S kin ⟨hx, rfl, rfl, trivial⟩ T.ov T.tk fun bb => ?_
  obtain ⟨cd, hc, hd'⟩ := PySem.W.any_some T.dc
  have ne1 : a ≠ hp.objs.size := Nat.ne_of_lt (Heap.lt_size hx)
  have LC := PySem.W.looks_clsIn (M := model X.prog X.w) kin hc
  obtain ⟨nm, bs, mro, ns, qn, hd, sn, sb, ab, col, del⟩ := cd
  dsimp only at hd'
  subst hd'
  show wpAny _ _ (storeInOwnDict (.ref a) (.ref C) (.str f tk) f u bb) _ _ _
  unfold storeInOwnDict ownDictForStores
  repeat (first
    | with_reducible refine PySem.HandSPX.store_in_new ?_ ?_
    | with_reducible refine wpAny_loadPart_at hx ?_
    | with_reducible refine LC.at ?_
    | wp_step)
  · refine ⟨_, #[], _, (Heap.get?_update_ne _ _ _ _ ne1.symm).trans (Heap.get?_push_at rfl rfl), rfl, ?_, fun _ => rfl⟩
    intro e he
    exact absurd he (by simp)
  · intro h' tk' hn' hs
    have e1 : (hp.push { cls := .type "dict", data := .dict #[] }).get? a = some { cls := .ref C, data := .fields fv } := Heap.get?_push_of_some _ hx
    refine hq h' tk' hp.objs.size ?_ (Nat.le_refl _) ne1.symm ?_ hn'
    · intro c o hc2 ho
      refine (hs.2 c (Nat.ne_of_lt (Heap.lt_size ho))).trans ?_
      exact (Heap.get?_update_ne _ _ _ _ hc2).trans (Heap.get?_push_of_some _ ho)
    · exact (hs.2 a ne1).trans (Heap.get?_update_self _ e1 rfl)
/-- self.f = y, the first field of a new error -/
theorem fld_new (T : XcK X.K b C f) (I : Inv X pins σ H s) (e : H a = some (exo a C none)) (ry : RelV y u)
    (h : ∀ dx s', H dx = none → dx ≠ a → Inv X pins σ (upd (upd H dx (exd dx [(f, y)])) a (exo a C (some dx))) s' → Q () s') : wpAny (model X.prog X.w) A (setAttr (.ref a) f u) Q E s := by
  obtain ⟨t1, ho⟩ := exo_at I.hok e
  obtain ⟨hp, g, d, t, os⟩ := s
  refine PySem.W.set_plain I.kIn (od := none) (ox := { cls := .ref C, dict := none, data := .fields #[.ref t1, .none, .none, .none, .bool false, .none] }) ⟨ho, rfl, rfl, trivial⟩ T.sa ?_
  refine fld_raw T I.kIn ho fun h' tk' dx k big ne hx hn => ?_
  have free : H dx = none := I.hok.fresh big
  have old : ∀ {c : Addr} {o : Obj}, hp.get? c = some o → c ≠ dx := fun {c o} q => Nat.ne_of_lt (Nat.lt_of_lt_of_le (Heap.lt_size q) big)
  have notA : ∀ {c : Addr}, H c = none → c ≠ a := fun {c} n z => by rw [z, e] at n; cases n
  have U : Un X.fs [] H (upd (upd H dx (exd dx [(f, y)])) a (exo a C (some dx))) hp h' := by
    constructor
    · intro c o q n _ _; exact k c o (notA n) q
    · intro c o q n _ _; exact ⟨o.slots, k c o (notA n) q⟩
    · intro c o q n _; rw [upd_ne (notA n), upd_ne (old q)]; exact n
    · intro c o q _
      by_cases hc : c = a
      · subst hc; exact ⟨_, hx⟩
      · exact ⟨o, k c o hc q⟩
    · intro c xs q; rw [upd_ne (at_ne e q exo_tup), upd_ne (ne_of_none q free)]; exact q
    · intro c o v q; rw [upd_ne (at_ne e q exo_frz), upd_ne (ne_of_none q free)]; exact q
    · intro c ps q; exact ⟨#[], by rw [upd_ne (at_ne e q exo_tbl), upd_ne (ne_of_none q free), q]; simp⟩
  refine h dx _ free ne (I.un (t' := tk') U ?_)
  intro c o q
  by_cases hc : c = a
  · subst hc
    rw [upd_same] at q
    cases q
    exact exo_ok hx
  rw [upd_ne hc] at q
  by_cases hd : c = dx
  · subst hd
    rw [upd_same] at q
    cases q
    exact exd_ok hn (relO_put (fs := []) ry fun _ => True.intro)
  rw [upd_ne hd] at q
  refine (I.hok c o q).stay (fun c2 v hc2 z => k c2 v ?_ z) (fun c2 q2 => ?_) fun c2 xs q2 => ?_
  · rcases hc2 with z2 | z2
    · rw [z2]; exact hc
    · exact at_ne e z2 exo_own
  · rw [upd_ne (at_ne e q2 exo_own), upd_ne (ne_of_none q2 free)]; exact q2
  · rw [upd_ne (at_ne e q2 exo_tup), upd_ne (ne_of_none q2 free)]; exact q2
/-- the base's own __init__: nothing of it is told -/
theorem ini_ok {us : List Value} {Q : Value → Shared → Prop} (T : XcK X.K b C f) (I : Inv X pins σ H s) (e : H a = some (exo a C none)) (hl : us.length ≤ sizeLine) (h : ∀ s', Inv X pins σ H s' → Q .none s') :
    wpAny (model X.prog X.w) A (call (.builtin b.ini) (.ref a :: us)) Q E s := by
  obtain ⟨t1, ho⟩ := exo_at I.hok e
  obtain ⟨hp, g, d, t, os⟩ := s
  obtain ⟨nm, N, q, bs, bm, hdct, sn, sub, ab, col, dd, k0, k1, k2, k3, k5, hC, hT⟩ := PySem.W.excInit_of I.kIn T.sh
  refine wpAny_call (PySem.HandSPX.init_base T.ok.F hT hC ho hl fun h' t2 k hx => ?_)
  have J := I.write (t' := t) (x := a) (e := a) (o := exo a C none) (by rw [e]; exact True.intro) (.inl rfl) k ⟨_, hx⟩ (exo_ok hx)
  have same : upd H a (exo a C none) = H := funext fun c => by
    by_cases hc : c = a
    · rw [hc, upd_same, e]
    · rw [upd_ne hc]
  exact h _ (same ▸ J)
end
/-- B.__init__(self, ..) -/
def tIni (K : PySem.W.Frag) (b : Bs) (ta : TA) : TE := fun σ H Q => ta σ H fun vs H1 => ∃ (a C : Addr) (f : Str) (ws : List V), vs = .ref a :: ws ∧ ws.length ≤ 1000 ∧ XcK K b C f ∧ H1 a = some (exo a C none) ∧ Q .non H1
/-- self.f = e, the first one -/
def tFld (K : PySem.W.Frag) (b : Bs) (f : Str) (to te : TE) : TS := fun D σ H => te σ H fun y H1 => to σ H1 fun x H2 => ∃ a C : Addr, x = .ref a ∧ XcK K b C f ∧ H2 a = some (exo a C none) ∧
  ∀ dx, H2 dx = none → dx ≠ a → D.nx σ (upd (upd H2 dx (exd dx [(f, y)])) a (exo a C (some dx)))
section
variable {X : Cx} {o e : Expr} {es : List Expr} {to te : TE} {ta : TA} {f B : Str} {p p' p1 p2 pos : Pos} {b : Bs}
theorem pe_ini {pl : Sem Bool} (ok : BsOk b) (hB : B = Str.ofString b.B) (hg : Gl X B) (hm : X.mg B = none) (ha : PA X (e :: es) ta)
    (hc : eval (.Call (.Attribute (.Name B p1) "__init__" p2) (e :: es) [] pos) X.env = (do
      let ov ← eval (.Name B p1) X.env
      standAt p2.atName
      let (f, first) ← holding [ov] (getMethod ov "__init__" pl)
      callWith pos f first (backTo pos (starEach (e :: es) X.env)) (backToKw pos (keywordEach [] X.env))) := by rfl)
    (he : starEach (e :: es) X.env = (false, eval e X.env) :: starEach es X.env := by rfl) (hpl : (backTo pos (starEach es X.env)).any (·.1) = false := by rfl) :
    PE X (.Call (.Attribute (.Name B p1) "__init__" p2) (e :: es) [] pos) (tIni X.K b ta) := by
  subst hB
  refine ⟨fun pins s σ H Q I h => ?_⟩
  refine PySem.W.methodCall_KW (ld_blt I hg hm ok.bt ?_ ok.ne ok.nd) hc
  obtain ⟨m, fr⟩ := I.fr
  refine PySem.W.method_type fr I.ok.mod.kin ok.ty ok.st (ok.fc _) ok.hd ?_
  show wpAny _ _ (callWith pos (Value.builtin b.ini) [] (backTo pos (starEach (e :: es) X.env)) []) _ _ _
  refine PyProof.Rows.callWith_method1 (thn (ha.run pos pins _ σ H _ (I.tok _) h) fun us s1 hh => ?_) he hpl
  obtain ⟨vs, H1, I1, r1, a, C, f, ws, ev, hl, T, ea, q⟩ := hh
  subst ev
  cases r1 with
  | @cons _ u0 _ ur ra rw' =>
    cases (show u0 = Value.ref a from ra)
    refine ini_ok T I1 ea ?_ fun s' J => ⟨.non, H1, J, rfl, q⟩
    rw [← Paired.length rw', sizeLine_eq]
    omega
theorem ps_fld (ho : PE X o to) (he : PE X e te) (hs : swapsWith e (some (.Attribute o f p')) pos.line X.env = pure false := by rfl) : PS X (.Assign [.Attribute o f p'] e pos) (tFld X.K b f to te) := by
  refine ⟨fun pins s σ H D I h => ?_⟩
  refine plainObj_wpAny_Assign_Attribute (thn (he.run pins s σ H _ I h) fun v s1 hh => ?_) hs
  obtain ⟨y, H1, I1, r1, q1⟩ := hh
  refine thn (ho.run pins s1 σ H1 _ I1 q1) fun u s2 hh => ?_
  obtain ⟨x, H2, I2, r2, a, C, ex, T, ea, q⟩ := hh
  subst ex
  cases (show u = Value.ref a from r2)
  exact fld_new T I2 ea r1 fun dx s' n ne J => ⟨σ, _, J, q dx n ne⟩
end
/-! ### except (A, B, ..) as error -/
section
open PySem.W
theorem lk_each {M : Model} {h : Heap} {f : Value → PUnit → Sem (ForInStep PUnit)} : ∀ {l : List Value}, (∀ c ∈ l, Looks M h (f c ⟨⟩) (.yield ⟨⟩)) → Looks M h (forIn l PUnit.unit f) ⟨⟩
  | [], _ => by
    rw [List.forIn_nil]
    exact .now
  | c :: l, hf => by
    rw [List.forIn_cons]
    exact (hf c List.mem_cons_self).andThen (lk_each fun d hd => hf d (List.mem_cons_of_mem _ hd))
theorem lk_any {M : Model} {K : Frag} {h : Heap} {cls : Value} (X : K.In h) {f : Value → Option Bool × Unit → Sem (ForInStep (Option Bool × Unit))}
    (hf : ∀ c v, exmOne K cls c = some v → Looks M h (f c (none, ())) (if v then .done (some true, ()) else .yield (none, ()))) : ∀ {l : List Value} {b : Bool}, exmAny K cls l = some b → Looks M h (forIn l (none, ()) f) (if b then some true else none, ())
  | [], b, e => by
    cases e
    rw [List.forIn_nil]
    exact .now
  | c :: l, b, e => by
    obtain ⟨b1, d1, x1, y1, rfl⟩ := exmAny_cons e
    rw [List.forIn_cons]
    have q1 := hf c b1 x1
    cases b1 with
    | true => exact q1.andThen .now
    | false =>
      have q2 := lk_any X hf y1
      rw [Bool.false_or]
      exact q1.andThen q2
theorem exm_mem {K : Frag} {cls : Value} : ∀ {l : List Value} {b : Bool}, exmAny K cls l = some b → ∀ c ∈ l, ∃ v, exmOne K cls c = some v
  | [], _, _, _, hc => nomatch hc
  | d :: l, b, e, c, hc => by
    obtain ⟨b1, d1, x1, y1, rfl⟩ := exmAny_cons e
    rcases List.mem_cons.mp hc with rfl | hc
    · exact ⟨_, x1⟩
    · exact exm_mem y1 c hc
theorem exm_all {M : Model} {K : Frag} {h : Heap} {e tp : Addr} {cls : Value} {cs : List Value} {b : Bool} (X : K.In h) (LT : Looks M h (typeOf (.ref e)) cls) (hp : h.get? tp = some { cls := .type "tuple", data := .seq cs.toArray })
    (hx : exmAny K cls cs = some b) : Looks M h (excMatches (.ref e) (.ref tp)) b := by
  intro A Q E s k₀ q
  have LT0 : Looks M h (isInstance (.ref tp) (.type "tuple")) true := ((Looks.ld hp).andThen .now).andThen (Looks.of_pure isSubtype_tuple_tuple)
  have LT0 := LT0.keeps k₀
  have LT := LT.keeps k₀
  have hp' := k₀ _ _ hp
  unfold excMatches
  refine wpAny_bind (LT0.here ?_)
  dsimp only
  rw [if_pos rfl]
  first
    | refine wpAny_bind (wpAny_seqItems hp' rfl ?_)
    | refine wpAny_bind (wpAny_bind (wpAny_seqItems hp' rfl (wpAny_pure ?_)))
  dsimp only [Option.getD_some, Option.getD]
  refine wpAny_bind (wpAny_pure ?_)
  have X' : K.In s.heap := X.keeps k₀
  refine wpAny_bind ((lk_each (h := s.heap) fun c hc => ?_).here ?_)
  · obtain ⟨v, hv⟩ := exm_mem hx c hc
    exact (exm_cls X' hv).1.andThen .now
  refine wpAny_bind (LT.here ?_)
  refine wpAny_bind ((lk_any (h := s.heap) X' (fun c v hv => (exm_cls X' hv).2.andThen ?_) hx).here ?_)
  · cases v <;> exact .now
  · cases b <;> exact wpAny_pure q
end
/-- a caught error: at a, its class at C, its dict at d -/
def XO (a C d : Addr) : HO := .ext fun h => ∃ o vs, h.get? a = some o ∧ o.cls = .ref C ∧ o.dict = some d ∧ o.data = .fields vs
theorem XO_ok {P : Program} {w : World} {H : Hp} {h : Heap} {a C d : Addr} {o : Obj} {vs : Array Value} (e : h.get? a = some o) (e1 : o.cls = .ref C) (e2 : o.dict = some d) (e3 : o.data = .fields vs) : ObjOk P w H h a (XO a C d) :=
  ⟨⟨o, vs, e, e1, e2, e3⟩, ⟨o, e⟩, fun _ _ ⟨o', v', q, r⟩ k => ⟨o', v', k _ q, r⟩⟩
section
variable {X : Cx} {pins : List (Addr × Obj)} {σ : L2.St} {H : Hp} {s : Shared}
/-- what is pinned may be told of from now on -/
theorem Inv.track {a C d : Addr} {oe : Obj} (I : Inv X ((a, oe) :: pins) σ H s) (hz : Zc (.ref C) (some d) oe) (hf : ∃ vs, oe.data = .fields vs) (fresh : ∀ o, X.s_0.heap.get? a = some o → X.H_0 a ≠ none) (other : ∀ p ∈ X.pn ++ pins, p.1 ≠ a) :
    Inv X pins σ (upd H a (XO a C d)) s := by
  obtain ⟨ha, na, nL, nF, nC⟩ := I.pin (a, oe) (List.mem_append_right _ List.mem_cons_self)
  have ha : s.heap.get? a = some oe := ha
  have na : H a = none := na
  obtain ⟨vs, hv⟩ := hf
  have neT : ∀ {c : Addr} {u : HO}, H c = some u → c ≠ a := fun {c u} e z => by rw [z, na] at e; cases e
  refine ⟨I.ok, I.os, I.bare, ⟨I.base.keep, I.base.slot, fun c o e n hq => ?_, I.base.there, fun c xs e => ?_, fun c o u e => ?_, fun c ps e => ?_⟩, I.loc, I.cell, ?_, fun x c e => ?_, fun p hp => ?_, fun c u e => ?_, I.len⟩
  · rw [upd_ne (fun z : c = a => by subst z; exact fresh o e n)]
    exact I.base.free c o e n hq
  · have q := I.base.tups c xs e
    rw [upd_ne (neT q)]
    exact q
  · have q := I.base.frzs c o u e
    rw [upd_ne (neT q)]
    exact q
  · obtain ⟨more, q⟩ := I.base.tbls c ps e
    exact ⟨more, by rw [upd_ne (neT q)]; exact q⟩
  · rw [upd_ne (Ne.symm nL)]
    exact I.free
  · have ne : c ≠ a := fun z => by
      obtain ⟨v, o, ho, hd⟩ := I.cell x c e
      rw [z, ha] at ho
      cases ho
      exact nC v hd
    rw [upd_ne ne]
    exact I.freeC x c e
  · have hp2 : p ∈ X.pn ++ (a, oe) :: pins := by
      rcases List.mem_append.mp hp with q | q
      · exact List.mem_append_left _ q
      · exact List.mem_append_right _ (List.mem_cons_of_mem _ q)
    obtain ⟨e1, e2, e3⟩ := I.pin p hp2
    exact ⟨e1, by rw [upd_ne (other p hp)]; exact e2, e3⟩
  · by_cases hc : c = a
    · subst hc
      rw [upd_same] at e
      cases e
      exact XO_ok ha hz.1 hz.2 hv
    · rw [upd_ne hc] at e
      refine (I.hok c u e).stay (fun _ _ _ q => q) (fun c2 q => ?_) fun c2 xs q => ?_
      · rw [upd_ne (neT q)]; exact q
      · rw [upd_ne (neT q)]; exact q
theorem fly_keep {B h h' : Heap} {l : List Env} {a : Addr} {Z : Obj → Prop} (x : HandSPX.FlyingZ B l a Z h) (k : ∀ b o, h.get? b = some o → h'.get? b = some o) : HandSPX.FlyingZ B l a Z h' := by
  obtain ⟨x1, x2, x3, oe, vs, T, oT, ts, he, hz, hd, h1, hnT, hTe, hT, hdT, h3⟩ := x
  exact ⟨fun b o e => k b o (x1 b o e), x2, Heap.FunFrames.of_keeps (fun b o e _ => ⟨o, k b o e, rfl⟩) x3, oe, vs, T, oT, ts, k _ _ he, hz, hd, h1, hnT, hTe, k _ _ hT, hdT, h3⟩
/-- the classes that a clause names -/
inductive NamesAll (X : Cx) : List Expr → List Value → Prop
  | nil : NamesAll X [] []
  | cons {x : Str} {p : Pos} {c : Value} {es : List Expr} {cs : List Value} (hc : Names X x c) (r : NamesAll X es cs) : NamesAll X (.Name x p :: es) (c :: cs)
theorem NamesAll.length {X : Cx} {es : List Expr} {cs : List Value} (n : NamesAll X es cs) : es.length = cs.length := by
  induction n with
  | nil => rfl
  | cons _ _ ih => rw [List.length_cons, List.length_cons, ih]
/-- a name of a class, read within the clause -/
theorem nm_read {a : Addr} {pn : List (Addr × Obj)} {x : Str} {p : Pos} {c : Value} {Q E : Value → Shared → Prop} (S : Inv (X.suite a pn) [] σ H s) (hc : Names X x c) (q : Q c s) : wpAny (model X.prog X.w) (X.A.mark (some (.ref a))) (eval (.Name x p) X.env) Q E s := by
  obtain ⟨hg, hd, hm | ⟨hm, hv, hn⟩⟩ := hc
  · exact ld_glob (X := X.suite a pn) S hg hm q hd
  · exact ld_blt (X := X.suite a pn) S hg hm hv q hn hd
theorem nms_read {a : Addr} {pn : List (Addr × Obj)} {pos : Pos} {E : Value → Shared → Prop} (S : Inv (X.suite a pn) [] σ H s) {es : List Expr} {cs : List Value} (n : NamesAll X es cs) :
    ∀ {Q : List Value → Shared → Prop}, Q cs s → wpAny (model X.prog X.w) (X.A.mark (some (.ref a))) (spliced (backTo pos (starEach es X.env))) Q E s := by
  induction n with
  | nil => intro Q q; exact Calls.spliced_nil q
  | cons hc r ih =>
    intro Q q
    exact Calls.spliced_cons (nm_read S hc (ih q))
/-- the clause's test -/
def TestIs (X : Cx) (t : Expr) (cs : List Value) : Prop := (∃ x p c, t = .Name x p ∧ cs = [c] ∧ Names X x c) ∨ ∃ es k p, t = .Tuple es k p ∧ NamesAll X es cs ∧ cs.length ≤ 100
theorem test_ok {a : Addr} {pn : List (Addr × Obj)} {t : Expr} {cs : List Value} {cls : Value} {b : Bool} {Q : Bool → Shared → Prop} {E E2 : Value → Shared → Prop} (S : Inv (X.suite a pn) [] σ H s) (ht : TestIs X t cs)
    (LT : PySem.W.Looks (model X.prog X.w) s.heap (typeOf (.ref a)) cls) (hx : PySem.W.exmAny X.K cls cs = some b) (h : ∀ h', (∀ c o, s.heap.get? c = some o → h'.get? c = some o) → Q b { s with heap := h' }) :
    wpAny (model X.prog X.w) (X.A.mark (some (.ref a))) (eval t X.env) (fun c s₁ => wpAny (model X.prog X.w) (X.A.mark (some (.ref a))) (excMatches (.ref a) c) Q E2 s₁) E s := by
  rcases ht with ⟨x, p, c, rfl, rfl, hc⟩ | ⟨es, k, p, rfl, hn, hl⟩
  · refine nm_read S hc ?_
    obtain ⟨b1, d1, x1, y1, rfl⟩ := PySem.W.exmAny_cons hx
    cases (show some false = some d1 from y1)
    refine (PySem.W.exm_one (M := model X.prog X.w) S.kIn LT x1).here ?_
    have q := h s.heap fun _ _ e => e
    rw [Bool.or_false] at q
    exact q
  · refine wpAny_Tuple_spliced (nms_read S hn ⟨?_, ?_⟩)
    · have := sizeLine_eq
      omega
    · have kp : ∀ c o, s.heap.get? c = some o → (s.heap.push { cls := .type "tuple", data := .seq cs.toArray }).get? c = some o := fun c o e => Heap.get?_push_of_some _ e
      refine (exm_all (M := model X.prog X.w) (h := s.heap.push { cls := .type "tuple", data := .seq cs.toArray }) (S.kIn.keeps kp) (LT.keeps kp) (Heap.get?_push_size _ rfl) hx).here ?_
      exact h _ kp
end
/-- what the clause 'except .. as n: g = n' wishes of an error of the body: n's slot i, g's slot j -/
def wKeep (K : PySem.W.Frag) (cs : List Value) (i j : Nat) (Wout : WX) (D : Ends) : WX := fun cls d σ H => ∃ b, PySem.W.exmAny K cls cs = some b ∧
  (b = true → ∃ C dd, cls = .ref C ∧ d = some dd ∧ ∀ a, H a = none → D.nx (((σ.set i (some (.ref a))).set j (some (.ref a))).set i none) (upd H a (XO a C dd))) ∧ (b = false → Wout cls d σ H)
section
variable {X : Cx} {g n : Str} {cs : List Value} {i j : Nat} {body : List Stmt} {t : Expr} {p1 p2 p3 pos pos' : Pos} {tb : WX → TS} {Wout : WX}
theorem ps_keep (hs : X.stack = X.env :: X.outer) (hf : X.env.frame = some X.env.locals) (hex : X.ex = []) (hN : X.N.Nodup) (hi : X.N[i]? = some n) (hj : X.N[j]? = some g) (hln : X.env.kindOf n = some .local) (hlg : X.env.kindOf g = some .local)
    (dn : (n == ("__debug__" : Str)) = false) (cn : (n == ("__classdict__" : Str)) = false) (hij : i ≠ j) (ht : TestIs X t cs) (tk : Takes X Wout)
    (hb : ∀ (W : WX) (pn : List (Addr × Obj)) (xe : Value → Shared → Prop), Takes (X.tr pn xe) W → PassesOwn (model X.prog X.w) X.A X.env xe → PSs (X.tr pn xe) body (tb W)) :
    PS X (.Try body [.ExceptHandler (some t) (some n) [.Assign [.Name g p1] (.Name n p2) p3] pos'] [] [] pos) (fun D σ H => tb (wKeep X.K cs i j Wout D) D σ H) := by
  refine ⟨fun pins s σ H D I h => ?_⟩
  have ok := I.ok
  have hfr : X.A.frames = some (X.env :: X.outer) := by rw [ok.frames, hs]
  have frsS : ∀ b ∈ frs X.stack, b = X.env.locals ∨ b ∈ X.fs := fun b hb => List.mem_cons.mp (I.stkSub b hb)
  refine wpAny_Try_except ?_
  refine wpAny_mono ((hb (wKeep X.K cs i j Wout D) (X.pn ++ pins)
    (fun e s₁ => wpAny (model X.prog X.w) X.A (noteFrame e X.env)
      (fun _ s₂ => wpAny (model X.prog X.w) X.A (setFlight e none)
        (fun _ s₃ => wpAny (model X.prog X.w) X.A (handleBy e X.env [.ExceptHandler (some t) (some n) [.Assign [.Name g p1] (.Name n p2) p3] pos']) (SP X pins D) X.xe s₃) X.xe s₂) X.xe s₁)
    (fun u s' xx => ?_) PassesOwn.looking).run [] s σ H D (I.toTry _) h) (fun f s1 hsp => ?_) (fun e s1 he => he)
  · obtain ⟨a, B, sI, pins', σ', H', cls, d, rfl, J', nb, up, sky, na, os, ag, b, hb1, hyes, hno⟩ := xx
    have J : Inv X pins σ' H' sI := J'.ofTry ok
    have sky2 : Sky B (X.env :: X.outer) a (Zc cls d) X.env.locals s'.heap := hs ▸ sky
    show wpAny (model X.prog X.w) X.A (noteFrame (.ref a) X.env) _ _ _
    refine Sky.land Zc.steady hfr hf sky2 fun h3 fl3 up3 => ?_
    have J3 : Inv X pins σ' H' { s' with heap := h3 } := J.landed nb fl3.1 (up.trans up3) os ag
    obtain ⟨oe3, vs3, he3, hz3, hd3⟩ := fl3.there
    have notFr : ∀ {h : Heap} {o : Obj} {vs : Array Value}, h.FunFrames B (X.env :: X.outer) → h.get? a = some o → o.data = .fields vs → a ∉ frs (X.env :: X.outer) := fun {h o vs} ff e dd hm => by
      obtain ⟨_, o', e', hnf⟩ := ff.mem hm
      rw [e] at e'
      cases e'
      exact hnf _ dd
    have nfr := notFr fl3.2.2.1 he3 hd3
    have nL : a ≠ X.env.locals := fun z => nfr (List.mem_filterMap.mpr ⟨X.env, List.mem_cons_self, by rw [hf, z]⟩)
    have nF : a ∉ X.fs := fun hm => by
      obtain ⟨e, he, q⟩ := List.mem_filterMap.mp hm
      exact nfr (List.mem_filterMap.mpr ⟨e, List.mem_cons_of_mem _ he, q⟩)
    have nB : B.get? a = none := fl3.2.1
    have notI : ∀ o, sI.heap.get? a = some o → False := fun o e => by
      have q := nb a o e (by rw [hs]; exact nfr)
      rw [nB] at q
      cases q
    have fresh : ∀ o, X.s_0.heap.get? a = some o → X.H_0 a ≠ none := fun o e q => notI _ (J.base.keep a o e q nF (by rw [hex]; exact List.not_mem_nil))
    have other : ∀ p ∈ X.pn ++ pins, p.1 ≠ a := fun p hp z => notI p.2 (by rw [← z]; exact (J.pin p hp).1)
    have S3 := J3.suite he3 hd3 na nL nF
    refine wpAny_handleBy_cons (codeAny_handlers_test ?_) (by intro q; cases q)
    have LT : PySem.W.Looks (model X.prog X.w) h3 (typeOf (.ref a)) cls := fun A Q E s k q => wpAny_typeOf_ref (k _ _ he3) (by rw [hz3.1]; exact q)
    refine test_ok S3 ht LT hb1 fun h5 k5 => ?_
    have fl5 := fly_keep fl3 k5
    have up5 : Heap.UpToSlots sI.heap h5 := (up.trans up3).trans (Heap.UpToSlots.of_keeps k5)
    cases b with
    | true =>
      refine codeAny_handlers_suite_as ?_
      refine HandSPX.lands_againZ fl5 fun h4 fl4 up4 => ?_
      have J4 : Inv X pins σ' H' { s' with heap := h4 } := J.landed nb fl4.1 (up5.trans up4) os ag
      obtain ⟨oe4, vs4, he4, hz4, hd4⟩ := fl4.there
      have S4 := J4.suite he4 hd4 na nL nF
      refine store_ok (X := X.suite a ((a, oe4) :: (X.pn ++ pins))) (v := .ref a) S4 hN hi (.inl hln) rfl (fun s5 S5 => ?_) (.inr hln)
      obtain ⟨C, dd, rfl, rfl, go⟩ := hyes rfl
      have pe : PE (X.suite a ((a, oe4) :: (X.pn ++ pins))) (.Name n p2) (tVar i) := pe_var hi (.inl hln) dn cn
      have li : i < σ'.length := by rw [J.len]; exact (List.getElem?_eq_some_iff.mp hi).1
      have q0 : tAsg (tVar i) (gName j) { nx := fun σ6 H6 => σ6 = (σ'.set i (some (.ref a))).set j (some (.ref a)) ∧ H6 = H', rt := fun _ _ => False } (σ'.set i (some (.ref a))) H' :=
        ⟨.ref a, List.getElem?_set_self li, rfl, rfl⟩
      refine wpAny_mono ((pss_one (ps_asg (X := X.suite a ((a, oe4) :: (X.pn ++ pins))) pe (pg_name hN hj (.inl hlg) (.inr hlg)))).run [] s5 _ H' _ S5 q0) (fun f s6 hsp => ?_) fun _ _ z => False.elim z
      cases f with
      | next =>
        obtain ⟨σ6, H6, S6, e6, e7⟩ := hsp
        subst e6 e7
        have J6 : Inv X ((a, oe4) :: pins) ((σ'.set i (some (.ref a))).set j (some (.ref a))) H6 s6 := by
          refine ⟨ok, S6.os, S6.bare, S6.base, S6.loc, S6.cell, S6.free, S6.freeC, fun p hp => S6.pin p ?_, S6.hok, S6.len⟩
          rw [List.append_nil]
          rcases List.mem_append.mp hp with q | q
          · exact List.mem_cons_of_mem _ (List.mem_append_left _ q)
          · rcases List.mem_cons.mp q with rfl | q
            · exact List.mem_cons_self
            · exact List.mem_cons_of_mem _ (List.mem_append_right _ q)
        refine gone_ok J6 hN hi hln fun s7 J7 => ?_
        exact ⟨_, _, Inv.track J7 hz4 ⟨_, hd4⟩ fresh other, go a na⟩
      | brk =>
        obtain ⟨_, _, _, z⟩ := hsp
        exact z.elim
      | cont =>
        obtain ⟨_, _, _, z⟩ := hsp
        exact z.elim
      | ret u =>
        obtain ⟨_, _, _, _, _, z⟩ := hsp
        exact z.elim
    | false =>
      show wpAny _ X.A (handleBy (.ref a) X.env []) _ _ _
      refine wpAny_handleBy_nil ?_
      obtain ⟨k1, k2, k3, oe, vs, T, oT, ts', he, hz, hd, h1, hr⟩ := id fl5
      unfold PySem.passOn
      refine wpAny_bind (wpAny_field he hd h1 ?_)
      rw [if_neg (show ¬ ((Value.ref T == Value.none) = true) from by simp)]
      have fin : wpAny (model X.prog X.w) X.A (setFlight (.ref a) X.env.frame) (fun _ s4 => wpAny (model X.prog X.w) X.A (throw (.ref a) : Sem Flow) (SP X pins D) X.xe s4) X.xe { s' with heap := h5 } := by
        rw [hf]
        refine HandSPX.setFlight_upZ fl5 fun h4 hh4 up4 => wpAny_throw (tk _ _ ?_)
        exact ⟨a, B, sI, pins, σ', H', cls, d, rfl, J, nb, up5.trans up4, .inr (.inr (by rw [hs]; exact hh4)), na, os, ag, hno rfl⟩
      first
        | exact wpAny_bind (wpAny_pure (wpAny_bind fin))
        | exact wpAny_bind fin
  · have back : ∀ {σ1 : L2.St} {H1 : Hp} {xe : Value → Shared → Prop}, Inv (X.tr (X.pn ++ pins) xe) [] σ1 H1 s1 → Inv X pins σ1 H1 s1 := fun z => z.ofTry ok
    cases f with
    | next =>
      obtain ⟨σ1, H1, J1, q⟩ := hsp
      exact wpAny_execs_nil ⟨σ1, H1, back J1, q⟩
    | brk =>
      obtain ⟨σ1, H1, J1, q⟩ := hsp
      exact ⟨σ1, H1, back J1, q⟩
    | cont =>
      obtain ⟨σ1, H1, J1, q⟩ := hsp
      exact ⟨σ1, H1, back J1, q⟩
    | ret u =>
      obtain ⟨v, σ1, H1, J1, r, q⟩ := hsp
      exact ⟨v, σ1, H1, back J1, r, q⟩
end
/-! ### the program's own errors, by their names -/
def xTab : List (String × String × Bs) := [("BadText", "text", bVE), ("BadRow", "number", bVE), ("Slips", "line", bVE), ("NotThere", "row", bVE), ("NoBoat", "boat", bLE), ("NoLine", "pair", bLE), ("NoCrew", "number", bLE), ("NoRow", "number", bLE),
  ("NoDeed", "many", bLE), ("Behind", "boat", bRE), ("NotEnough", "boat", bRE), ("TooMany", "many", bOE)]
def xRow (c : String) : List (String × String × Bs) → String × Bs
  | [] => ("", bVE)
  | p :: ps => if c = p.1 then p.2 else xRow c ps
def xB (c : String) : Bs := (xRow c xTab).2
def xF (c : String) : Str := Str.ofString (xRow c xTab).1
theorem xRow_ok (c : String) : ∀ l : List (String × String × Bs), (∀ p ∈ l, BsOk p.2.2) → BsOk (xRow c l).2
  | [], _ => okVE
  | p :: ps, h => by
    unfold xRow
    split
    · exact h p List.mem_cons_self
    · exact xRow_ok c ps fun q hq => h q (List.mem_cons_of_mem _ hq)
theorem xB_ok (c : String) : BsOk (xB c) := xRow_ok c xTab fun p hp => by
  simp only [xTab, List.mem_cons, List.not_mem_nil, or_false] at hp
  rcases hp with rfl | rfl | rfl | rfl | rfl | rfl | rfl | rfl | rfl | rfl | rfl | rfl <;> first | exact okVE | exact okLE | exact okRE | exact okOE
abbrev xA (K : PySem.W.Frag) (c : String) : Addr := He.ga K (Str.ofString c)
/-- all that is asked of a class, to be looked at -/
def xcB (K : PySem.W.Frag) (c : String) : Bool :=
  (xTab.map (·.1)).contains c && PySem.W.excInitIn K (xA K c) (xB c).bm (xB c).nw && (PySem.W.excOver K (xA K c) (xB c).bm && (PySem.W.hasDictIn K (xA K c) &&
  (decide (PySem.W.findIn K (.ref (xA K c)) "__setattr__" = some (some (.builtin "object.__setattr__"))) && (decide (PySem.W.findIn K (.ref (xA K c)) (xF c) = some none) &&
  (decide (PySem.W.findIn K (.ref (xA K c)) "__getattribute__" = some (some (.builtin "BaseException.__getattribute__"))) && (decide (PySem.W.findIn K (.ref (xA K c)) "__getattr__" = some none) &&
  (decide (PySem.W.findIn K (.ref (xA K c)) "__class__" = some (some (.builtin "object.__class__"))) && (decide (PySem.W.typeIn K (.ref (xA K c)) = some (.type "type")) && (PySem.W.keepIn K (.ref (xA K c)) &&
  (decide (PySem.W.specialIn K (.builtin "object.__class__") "__get__" = some (some (.builtin "getset_descriptor.__get__"))) && (decide (PySem.W.takesIn K (.builtin "object.__class__") = some true) &&
  (match PySem.W.clsIn K (xA K c) with
    | some cd => decide (cd.name = Str.ofString c) && decide (cd.mro = .ref (xA K c) :: (xB c).bm)
    | none => false))))))))))))
structure XcG (K : PySem.W.Frag) (c : String) : Prop where
  k : XcK K (xB c) (xA K c) (xF c)
  ga : PySem.W.findIn K (.ref (xA K c)) "__getattribute__" = some (some (.builtin "BaseException.__getattribute__"))
  gt : PySem.W.findIn K (.ref (xA K c)) "__getattr__" = some none
  cl : PySem.W.findIn K (.ref (xA K c)) "__class__" = some (some (.builtin "object.__class__"))
  ty : PySem.W.typeIn K (.ref (xA K c)) = some (.type "type")
  kp : PySem.W.keepIn K (.ref (xA K c)) = true
  gs : PySem.W.specialIn K (.builtin "object.__class__") "__get__" = some (some (.builtin "getset_descriptor.__get__"))
  tk : PySem.W.takesIn K (.builtin "object.__class__") = some true
  nm : c ∈ xTab.map (·.1)
  cd : ∃ cd, PySem.W.clsIn K (xA K c) = some cd ∧ cd.name = Str.ofString c ∧ cd.mro = .ref (xA K c) :: (xB c).bm
theorem xcB_ok {K : PySem.W.Frag} {c : String} (h : xcB K c = true) : XcG K c := by
  unfold xcB at h
  simp only [Bool.and_eq_true, decide_eq_true_eq] at h
  obtain ⟨⟨h0, h1⟩, h2, h3, h4, h5, h7, h8, h9, h10, h11, h12, h13, h14⟩ := h
  refine ⟨⟨xB_ok c, h1, h2, h3, h4, h5⟩, h7, h8, h9, h10, h11, h12, h13, by simpa using h0, ?_⟩
  split at h14
  · rename_i cd hc
    simp only [Bool.and_eq_true, decide_eq_true_eq] at h14
    exact ⟨cd, hc, h14⟩
  · cases h14
/-- a class that isinstance is asked of -/
inductive Xt | own (t : String) | bas (t : String)
deriving DecidableEq
def subX (c : String) : Xt → Bool
  | .own t => c == t
  | .bas t => (xB c).bm.contains (.type t)
def Xt.val (K : PySem.W.Frag) : Xt → Value
  | .own t => .ref (xA K t)
  | .bas t => .type t
def Xt.v (K : PySem.W.Frag) : Xt → V
  | .own t => .ref (xA K t)
  | .bas t => .ty t
/-- built-in classes that laws name -/
def xBas : List String := ["ValueError", "LookupError", "RuntimeError", "OverflowError", "ArithmeticError", "KeyError", "IndexError", "NotImplementedError"]
def Xt.ok (K : PySem.W.Frag) : Xt → Prop
  | .own t => XcG K t
  | .bas t => t ∈ xBas
section
variable {K : PySem.W.Frag} {c t : String}
theorem bm_own (c : String) (a : Addr) : (xB c).bm.contains (.ref a) = false := by
  have : ∀ l : List (String × String × Bs), (∀ p ∈ l, p.2.2.bm.contains (.ref a) = false) → (xRow c l).2.bm.contains (.ref a) = false := by
    intro l
    induction l with
    | nil => intro _; rfl
    | cons p ps ih =>
      intro h
      unfold xRow
      split
      · exact h p List.mem_cons_self
      · exact ih fun q hq => h q (List.mem_cons_of_mem _ hq)
  refine this _ fun p hp => ?_
  simp only [xTab, List.mem_cons, List.not_mem_nil, or_false] at hp
  rcases hp with rfl | rfl | rfl | rfl | rfl | rfl | rfl | rfl | rfl | rfl | rfl | rfl <;> rfl
theorem bm_base (c : String) : (xB c).bm.contains (.type "BaseException") = true ∧ (xB c).bm.contains (.type "object") = true := by
  have : ∀ l : List (String × String × Bs), (∀ p ∈ l, p.2.2.bm.contains (.type "BaseException") = true ∧ p.2.2.bm.contains (.type "object") = true) → (xRow c l).2.bm.contains (.type "BaseException") = true ∧ (xRow c l).2.bm.contains (.type "object") = true := by
    intro l
    induction l with
    | nil => intro _; exact ⟨show bVE.bm.contains _ = true by decide, show bVE.bm.contains _ = true by decide⟩
    | cons p ps ih =>
      intro h
      unfold xRow
      split
      · exact h p List.mem_cons_self
      · exact ih fun q hq => h q (List.mem_cons_of_mem _ hq)
  refine this _ fun p hp => ?_
  simp only [xTab, List.mem_cons, List.not_mem_nil, or_false] at hp
  rcases hp with rfl | rfl | rfl | rfl | rfl | rfl | rfl | rfl | rfl | rfl | rfl | rfl <;> exact ⟨by decide, by decide⟩
theorem XcG.mro (G : XcG K c) (b : Value) : PySem.W.subIn K (.ref (xA K c)) b = some (((.ref (xA K c) : Value) == b) || (xB c).bm.contains b) := by
  obtain ⟨cd, h1, h2, h3⟩ := G.cd
  show PySem.W.mroIn K (xA K c) b = _
  unfold PySem.W.mroIn
  rw [h1, Option.bind_some, h3]
  rw [if_neg (by simp), List.contains_cons]
  congr 2
  exact Bool.eq_iff_iff.mpr ⟨fun h => by rw [eq_of_beq h]; simp, fun h => by rw [eq_of_beq h]; simp⟩
theorem xNames : ((xTab.map (·.1)).all fun a => (xTab.map (·.1)).all fun b => !decide (Str.ofString a = Str.ofString b) || decide (a = b)) = true := by decide +kernel
theorem XcG.inj (G : XcG K c) (T : XcG K t) (e : xA K c = xA K t) : c = t := by
  obtain ⟨cd, h1, h2, _⟩ := G.cd
  obtain ⟨cd2, g1, g2, _⟩ := T.cd
  rw [e, g1] at h1
  cases h1
  rw [h2] at g2
  have h3 := List.all_eq_true.mp (List.all_eq_true.mp xNames c G.nm) t T.nm
  simpa [g2] using h3
theorem XcG.isC (G : XcG K c) : ((PySem.W.clsIn K (xA K c)).isSome && PySem.W.typeIn K (.ref (xA K c)) == some (.type "type")) = true := by
  obtain ⟨cd, h1, _⟩ := G.cd
  rw [h1, G.ty]
  rfl
theorem XcG.sub (G : XcG K c) (T : XcG K t) : PySem.W.subIn K (.ref (xA K c)) (.ref (xA K t)) = some (c == t) := by
  rw [G.mro, bm_own, Bool.or_false]
  congr 1
  rw [Bool.eq_iff_iff, beq_iff_eq, beq_iff_eq]
  exact ⟨fun e => G.inj T (Value.ref.inj e), fun e => by rw [e]⟩
theorem XcG.exm (G : XcG K c) (T : XcG K t) : PySem.W.exmOne K (.ref (xA K c)) (.ref (xA K t)) = some (c == t) := by
  unfold PySem.W.exmOne
  rw [if_pos (by rw [T.mro, (bm_base t).1, Bool.or_true]; rfl)]
  show (if ((PySem.W.clsIn K (xA K t)).isSome && PySem.W.typeIn K (.ref (xA K t)) == some (.type "type")) = true then PySem.W.subIn K (.ref (xA K c)) (.ref (xA K t)) else none) = _
  rw [if_pos T.isC]
  exact G.sub T
theorem XcG.exmAny (G : XcG K c) : ∀ {ts : List String}, (∀ t ∈ ts, XcG K t) → PySem.W.exmAny K (.ref (xA K c)) (ts.map fun t => .ref (xA K t)) = some (ts.contains c)
  | [], _ => rfl
  | t :: ts, h => by
    show (match PySem.W.exmOne K (.ref (xA K c)) (.ref (xA K t)), PySem.W.exmAny K (.ref (xA K c)) (ts.map fun t => .ref (xA K t)) with
      | some b, some d => some (b || d)
      | _, _ => none) = _
    rw [G.exm (h t List.mem_cons_self), G.exmAny fun u hu => h u (List.mem_cons_of_mem _ hu), List.contains_cons]
theorem xBas_meta : (xBas.all fun t => PySem.W.kitMeta t) = true := by decide +kernel
theorem XcG.kit (G : XcG K c) {x : Xt} (hx : x.ok K) : PySem.W.kitOne K (.ref (xA K c)) (x.val K) = some (subX c x) := by
  cases x with
  | own t =>
    have T : XcG K t := hx
    unfold PySem.W.kitOne
    show (if ((Value.ref (xA K c)) == .ref (xA K t)) = true then some true else if ((PySem.W.clsIn K (xA K t)).isSome && PySem.W.typeIn K (.ref (xA K t)) == some (.type "type")) = true then PySem.W.subIn K (.ref (xA K c)) (.ref (xA K t)) else none) = some (c == t)
    rw [if_pos T.isC, G.sub T]
    split
    · rename_i e
      rw [G.inj T (Value.ref.inj (eq_of_beq e))]
      simp
    · rfl
  | bas t =>
    have T : t ∈ xBas := hx
    have hm : PySem.W.kitMeta t = true := List.all_eq_true.mp xBas_meta t T
    unfold PySem.W.kitOne
    show (if ((Value.ref (xA K c)) == .type t) = true then some true else if PySem.W.kitMeta t = true then PySem.W.subIn K (.ref (xA K c)) (.type t) else none) = some ((xB c).bm.contains (.type t))
    rw [if_pos hm, G.mro, if_neg (by intro h; cases eq_of_beq h)]
    rfl
theorem kit_non {x : Xt} (hx : x.ok K) : PySem.W.kitOne K (.type "NoneType") (x.val K) = some false := by
  cases x with
  | own t =>
    have T : XcG K t := hx
    unfold PySem.W.kitOne
    show (if ((Value.type "NoneType") == .ref (xA K t)) = true then some true else if ((PySem.W.clsIn K (xA K t)).isSome && PySem.W.typeIn K (.ref (xA K t)) == some (.type "type")) = true then (PySem.fastBuiltinMro "NoneType").map (·.contains (.ref (xA K t))) else none) = _
    rw [if_pos T.isC, if_neg (by intro h; cases eq_of_beq h)]
    rfl
  | bas t =>
    have T : t ∈ xBas := hx
    have : (xBas.all fun t => decide (kitB "NoneType" t = some false)) = true := by decide +kernel
    exact kit_ty (of_decide_eq_true (List.all_eq_true.mp this t T))
theorem kit_all {ty : Value} {f : Xt → Bool} : ∀ {xs : List Xt}, (∀ x ∈ xs, PySem.W.kitOne K ty (x.val K) = some (f x)) → PySem.W.kitAny K ty (xs.map (Xt.val K)) = some (xs.any f)
  | [], _ => kitAny_nil
  | x :: xs, h => by
    refine kitAny_cons (h x List.mem_cons_self) (fun e => ?_) fun e => ?_
    · rw [kit_all fun y hy => h y (List.mem_cons_of_mem _ hy), List.any_cons, e, Bool.false_or]
    · rw [List.any_cons, e, Bool.true_or]
theorem cls_val (K : PySem.W.Frag) (x : Xt) : ClsV (x.v K) (x.val K) := by
  cases x with
  | own t => exact .own _
  | bas t => exact .ty _
end
/-- what isinstance of our errors may be asked of, with its class -/
inductive XV (K : PySem.W.Frag) (H : Hp) : V → Value → Prop
  | non : XV K H .non (.type "NoneType")
  | exc {a d : Addr} {c : String} {fs : List (Str × V)} (G : XcG K c) (e : H a = some (XO a (xA K c) d)) (ed : H d = some (.xd fs)) : XV K H (.ref a) (.ref (xA K c))
section
variable {X : Cx} {pins : List (Addr × Obj)} {σ : L2.St} {H : Hp} {s : Shared}
theorem xo_at {P : Program} {w : World} {h : Heap} {a C d : Addr} (hok : HOk P w H h) (e : H a = some (XO a C d)) : ∃ o vs, h.get? a = some o ∧ o.cls = .ref C ∧ o.dict = some d ∧ o.data = .fields vs := by
  have x : ObjOk P w H h a (XO a C d) := hok a _ e
  exact x.1
theorem xo_inst {a C d : Addr} {fs : List (Str × V)} (I : Inv X pins σ H s) (e : H a = some (XO a C d)) (ed : H d = some (.xd fs)) : ∃ ox od, PySem.W.InstAt s.heap a ox C (some od) ∧ ∃ mA : Str → Option Value, (∀ f, RelO (fs.lookup f) (mA f)) ∧ ∀ n, PySem.W.lookIn n od = some (mA n) := by
  obtain ⟨ox, vs, h1, h2, h3, h4⟩ := xo_at I.hok e
  obtain ⟨mA, hns, hr⟩ := (show ObjOk X.prog X.w H s.heap d (.xd fs) from I.hok d _ ed)
  obtain ⟨od, ho, hl⟩ := lookIn_ns hns
  exact ⟨ox, od, ⟨h1, h2, by unfold PySem.W.notCls; rw [h4], by rw [h3]; exact ho⟩, mA, hr, hl⟩
theorem xv_kit {x : V} {u t : Value} (I : Inv X pins σ H s) (rx : RelV x u) (ty : XV X.K H x t) : ∃ P : Heap → Prop, PySem.W.KitX X.K u t P ∧ P s.heap ∧ u ≠ .builtin "__main__.__loader__#opaque" := by
  cases ty with
  | non => cases (show u = Value.none from rx); exact ⟨_, PySem.W.kitx_none, True.intro, fun z => nomatch z⟩
  | @exc a d c fs G e ed =>
    cases (show u = Value.ref a from rx)
    obtain ⟨ox, od, J, _⟩ := xo_inst I e ed
    obtain ⟨cd, h1, _⟩ := G.cd
    refine ⟨_, PySem.W.kitx_exc (x := a) (ox := ox) (od := some od) (by rw [h1]; rfl) G.ga G.gt (by rw [G.mro, (bm_base c).1, Bool.or_true]) G.cl G.gs G.tk ?_, J, fun z => nomatch z⟩
    have := G.mro (.type "object")
    rw [(bm_base c).2, Bool.or_true] at this
    exact this
theorem call_xis : CallR X (.builtin "isinstance") (fun xs H Q => ∃ (x c : V) (t u : Value) (b : Bool), xs = [x, c] ∧ ClsV c u ∧ XV X.K H x t ∧ PySem.W.kitOne X.K t u = some b ∧ Q (.bl b) H) := by
  rintro pins s σ H xs us Q I r ⟨x, c, t, u, b, rfl, k, ty, e, q⟩
  obtain ⟨u1, u2, rfl, r1, r2⟩ := vals2 r
  cases k.eq r2
  obtain ⟨P, Z, p, hx⟩ := xv_kit I r1 ty
  exact PySem.W.kia_one Z I.kIn p e hx fun tk => ⟨.bl b, _, I.tok tk, rfl, q⟩
theorem call_xisT : CallR X (.builtin "isinstance") (fun xs H Q => ∃ (x : V) (tp : Addr) (cs : List V) (t : Value) (us : List Value) (b : Bool), xs = [x, .ref tp] ∧ H tp = some (.tup cs) ∧ Paired ClsV cs us ∧ XV X.K H x t ∧ PySem.W.kitAny X.K t us = some b ∧ Q (.bl b) H) := by
  rintro pins s σ H xs us Q I r ⟨x, tp, cs, t, ws, b, rfl, hT, k, ty, e, q⟩
  obtain ⟨u1, u2, rfl, r1, r2⟩ := vals2 r
  cases (show u2 = Value.ref tp from r2)
  obtain ⟨P, Z, p, hx⟩ := xv_kit I r1 ty
  obtain ⟨_, its, rv, ⟨oc, od, dt, sl⟩, h1, h2, n, h3⟩ := (show ObjOk X.prog X.w H s.heap tp (.tup cs) from I.hok tp _ hT)
  cases ClsV.all k rv
  simp only at h2 h3
  subst h2 h3
  exact PySem.W.kia_tup Z I.kIn p h1 e hx fun tk => ⟨.bl b, _, I.tok tk, rfl, q⟩
/-- err.f -/
def tXfd (K : PySem.W.Frag) (n : Str) (te : TE) : TE := fun σ H Q => te σ H fun x H1 => ∃ (a d : Addr) (c : String) (v : V), x = .ref a ∧ XcG K c ∧ xF c = n ∧ H1 a = some (XO a (xA K c) d) ∧ H1 d = some (.xd [(n, v)]) ∧ Q v H1
theorem pe_xfd {e : Expr} {te : TE} {pos : Pos} {n : Str} (he : PE X e te) (hb : attributeBase e n X.env (eval e X.env) = eval e X.env) : PE X (.Attribute e n pos) (tXfd X.K n te) := by
  refine ⟨fun pins s σ H Q I h => ?_⟩
  refine attr_of hb (thn (he.run pins s σ H _ I h) fun u s1 hh => ?_)
  obtain ⟨x, H1, I1, rx, a, d, c, v, ex, G, hn, ea, ed, q⟩ := hh
  subst ex
  cases (show u = Value.ref a from rx)
  obtain ⟨ox, od, J, mA, hr, hl⟩ := xo_inst I1 ea ed
  have l : List.lookup n [(n, v)] = some v := by simp [List.lookup]
  obtain ⟨u, hu, ru⟩ := RelO.some_of (v := v) (o := mA n) (by rw [← l]; exact hr n)
  exact HandSPX.exc_get I1.kIn J G.ga G.gt (by rw [G.mro, (bm_base c).1, Bool.or_true]) (PySem.W.findObj_own G.k.dc (hn ▸ G.k.no) rfl (by rw [hl, hu])) (handed_of ru) ⟨v, H1, I1.tok _, ru, q⟩
end
end Tw
set_option Elab.async false
set_option linter.all false
set_option autoImplicit false
set_option maxRecDepth 100000
/-! TwExc2: an own error's __init__, its making, raise. -/
namespace Tw
open PySem PySem.Spec PyProof.Rows L2 Builtin.ObjectAttr
def locS (sc : Scope) (x : Str) : Bool := match sc.names.lookup x with
  | some .local => true
  | _ => false
theorem locS_ok {sc : Scope} {x : Str} (h : locS sc x = true) : sc.names.lookup x = some .local := by
  unfold locS at h
  split at h
  · assumption
  · cases h
def gloS (sc : Scope) (x : Str) : Bool := match sc.names.lookup x with
  | some .globalImplicit => true
  | _ => false
theorem gloS_ok {sc : Scope} {x : Str} (h : gloS sc x = true) : sc.names.lookup x = some .globalImplicit := by
  unfold gloS at h
  split at h
  · assumption
  · cases h
def plnS (sc : Scope) : Bool := (match sc.kind with
  | .function => true
  | _ => false) && (!sc.isCoroutine && (!sc.isGenerator && sc.names.all fun y => match y.2 with
  | .free => false
  | _ => true))
def iniP (c : String) (ps : Arguments) : Bool := ps.posonlyargs.isEmpty && (ps.vararg.isNone && (ps.kwonlyargs.isEmpty && (ps.kwarg.isNone && (ps.defaults.isEmpty && decide (ps.args.map (·.arg) = [("self" : Str), xF c])))))
def iniS (c : String) (sc : Scope) : Bool := plnS sc && (locS sc "self" && (locS sc (xF c) && (gloS sc (Str.ofString (xB c).B) && (decide (("self" : Str) ≠ xF c) && (!(xF c == ("__debug__" : Str)) && !(xF c == ("__classdict__" : Str)))))))
def iniT (c : String) (body : List Stmt) : Bool := match body with
  | [.Expr (.Call (.Attribute (.Name B _) i p2) [.Name s1 _, .Constant (.str _) _ _] [] p5) _, .Assign [.Attribute (.Name s2 _) f _] (.Name f2 _) _] =>
    (p2.endLine == p5.line) && (decide (B = Str.ofString (xB c).B) && (decide (i = "__init__") && (decide (s1 = "self") && (decide (s2 = "self") && (decide (f = xF c) && decide (f2 = xF c))))))
  | _ => false
theorem iniT_ok {c : String} {body : List Stmt} (h : iniT c body = true) : ∃ p1 p2 p3 z j p4 p5 p6 p7 p8 p9 p10, (p2.endLine == p5.line) = true ∧
    body = [.Expr (.Call (.Attribute (.Name (Str.ofString (xB c).B) p1) "__init__" p2) [.Name "self" p3, .Constant (.str z) j p4] [] p5) p6, .Assign [.Attribute (.Name "self" p7) (xF c) p8] (.Name (xF c) p9) p10] := by
  unfold iniT at h
  split at h
  · simp only [Bool.and_eq_true, decide_eq_true_eq] at h
    obtain ⟨hl, rfl, rfl, rfl, rfl, rfl, rfl⟩ := h
    exact ⟨_, _, _, _, _, _, _, _, _, _, _, _, hl, rfl⟩
  · cases h
theorem ini_shape {B : Str} {p3 p4 p1 p2 pos : Pos} {z : Str} {j : Nat} {env : Env} (hl : (p2.endLine == pos.line) = true) : eval (.Call (.Attribute (.Name B p1) "__init__" p2) [.Name "self" p3, .Constant (.str z) j p4] [] pos) env = (do
      let ov ← eval (.Name B p1) env
      standAt p2.atName
      let (f, first) ← holding [ov] (getMethod ov "__init__" (plainOf (.Name B p1) env))
      callWith pos f first (backTo pos (starEach [.Name "self" p3, .Constant (.str z) j p4] env)) (backToKw pos (keywordEach [] env))) := by
  rw [arm_eval_Call]
  show (do
    let ov ← eval (.Name B p1) env
    standAt p2.atName
    methodCall (.Name B p1) "__init__" p2 pos env ov 2 (backTo pos (starEach [.Name "self" p3, .Constant (.str z) j p4] env)) (backToKw pos (keywordEach [] env))) = _
  refine congrArg _ (funext fun ov => congrArg _ (funext fun _ => ?_))
  exact mcall_line (by rfl) hl
/-- what the class's __init__ promises -/
def spI (K : PySem.W.Frag) (c : String) : Sp := fun vs H Q _ => ∃ (a : Addr) (y : V), vs = [.ref a, y] ∧ H a = some (exo a (xA K c) none) ∧ ∀ dx, H dx = none → dx ≠ a → Q .non (upd (upd H dx (exd dx [(xF c, y)])) a (exo a (xA K c) (some dx)))
theorem ini_fn {P : Program} {w : World} {K : PySem.W.Frag} {mg : Str → Option Value} {base : Heap} {CX : CXT} {k : Nat} {c : String} {fI : Addr} {fd : FuncData} {d : He.DefD} (G : XcG K c)
    (F : FunD K d.name d.qual d.params d.body d.scope (d.dvs K) (d.kws K) fI fd) (h1 : iniS c d.scope = true) (h2 : iniT c d.body = true) (hm : mg (Str.ofString (xB c).B) = none) : FnOk P w K mg base CX (k + 1) fI fd ["self", xF c] (spI K c) := by
  obtain ⟨p1, p2, p3, z, j, p4, p5, p6, p7, p8, p9, p10, hl, hb⟩ := iniT_ok h2
  unfold iniS plnS at h1
  simp only [Bool.and_eq_true, Bool.not_eq_true', decide_eq_true_eq] at h1
  obtain ⟨⟨k1, k2, k3, k4⟩, l1, l2, l3, ne, d1, d2⟩ := h1
  have l1 := locS_ok l1
  have l2 := locS_ok l2
  have l3 := gloS_ok l3
  have kind : d.scope.kind = .function := by
    split at k1
    · assumption
    · cases k1
  have S : FnScope ["self", xF c] ["self", xF c] d.scope := by
    refine ⟨kind, k2, k3, by simp [ne], rfl, fun x hx => ?_, fun y hy e => ?_⟩
    · simp only [List.mem_cons, List.not_mem_nil, or_false] at hx
      rcases hx with rfl | rfl
      · exact .inl l1
      · exact .inl l2
    · have q := List.all_eq_true.mp k4 y hy
      rw [e] at q
      cases q
  refine F.ok S (fun vs H Q E ⟨a, y, e, _⟩ => by rw [e]; rfl) fun cdv A outer s H vs Q E hr hsp => ?_
  obtain ⟨a, y, rfl, ea, q⟩ := hsp
  rw [hb]
  have v0 : ∀ {pos : Pos}, PE (cxOf CX P w K mg base ["self", xF c] d.qual d.scope fI cdv A outer s H E) (.Name "self" pos) (tVar 0) := fun {pos} => pe_var rfl (.inl l1) (by decide) (by decide)
  have v1 : ∀ {pos : Pos}, PE (cxOf CX P w K mg base ["self", xF c] d.qual d.scope fI cdv A outer s H E) (.Name (xF c) pos) (tVar 1) := fun {pos} => pe_var rfl (.inl l2) d1 d2
  refine ⟨_, pss_cons (ps_expr (pe_ini (xB_ok c) rfl l3 hm (pa_cons v0 (pa_cons pe_str pa_nil)) (ini_shape hl))) (pss_one (ps_fld (b := xB c) v0 v1)), ?_⟩
  refine ⟨.ref a, rfl, a, xA K c, xF c, _, rfl, by show 1 ≤ 1000; decide, G.k, ea, ?_⟩
  refine ⟨y, rfl, .ref a, rfl, a, xA K c, rfl, G.k, ea, fun dx n ne => q dx n ne⟩
/-- a class of ours may be made: its __init__ keeps its promise -/
structure MkOk (X : Cx) (c : String) : Prop where
  G : XcG X.K c
  mg : X.mg (Str.ofString c) = some (.ref (xA X.K c))
  fi : ∃ (fI : Addr) (fd : FuncData) (k : Nat), PySem.W.findIn X.K (.ref (xA X.K c)) "__init__" = some (some (.ref fI)) ∧ PySem.W.typeIn X.K (.ref fI) = some (.type "function") ∧
    FnOk X.prog X.w X.K X.mg X.base (L2.CX X.prog X.w) k fI fd ["self", xF c] (spI X.K c) ∧ Room (k + 1) X.A ∧ Binds X.K fd ["self", xF c] []
/-- C(e) -/
def tMkX (c : String) (K : PySem.W.Frag) (ta : TA) : L2.St → Hp → XK → Prop := fun σ H Q => ta σ H fun vs H1 => ∃ y, vs = [y] ∧ ∀ d, H1 d = none → Q (.ref (xA K c)) (some d) (upd H1 d (.xd [(xF c, y)]))
section
variable {X : Cx} {c : String} {e : Expr} {ta : TA} {p pos pos2 : Pos} {W : WX}
theorem pmk_x (M : MkOk X c) (hx : Passes (L2.CX X.prog X.w) X (fun _ _ _ => False)) (hg : Gl X (Str.ofString c)) (hd : (Str.ofString c == ("__debug__" : Str)) = false) (ha : PA X [e] ta)
    (he : starEach [e] X.env = (false, eval e X.env) :: starEach [] X.env) : PMk X (.Call (.Name (Str.ofString c) p) [e] [] pos) (tMkX c X.K ta) := by
  intro pins s σ H Q I h
  obtain ⟨fI, fd, k, iC, tI, F1, hr, hb⟩ := M.fi
  refine wpAny_Call_Name_kw (ld_glob I hg M.mg ?_ hd)
  refine PySem.W.callWith_K (h₀ := X.base) I.ok.mod.kin M.G.kp (thn (ha.run pos pins s σ H _ I h) fun us s1 hh => ?_) he (by rfl)
  obtain ⟨vs, H1, I1, r1, y, rfl, q1⟩ := hh
  refine ⟨I1.kIn, ?_⟩
  show wpAny _ _ (call (.ref (xA X.K c)) us) _ _ _
  obtain ⟨hp, g, dr, tk, os⟩ := s1
  obtain ⟨nm, N, qn, bs, bm, hdct, sn, sub, ab, col, dd, k0, k1, k2, k3, k5, hC, hT⟩ := PySem.W.excInit_of I1.kIn M.G.k.sh
  have big : hp.objs.size ≤ hp.objs.size + 1 := Nat.le_succ _
  have nH : H1 (hp.objs.size + 1) = none := I1.hok.fresh big
  have kk : ∀ b o, hp.get? b = some o → ((hp.push (PySem.W.kdv_tup us)).push (PySem.HandSPX.excO (xA X.K c) hp.objs.size)).get? b = some o := fun b o e => Heap.get?_push_of_some _ (Heap.get?_push_of_some _ e)
  have at1 : ((hp.push (PySem.W.kdv_tup us)).push (PySem.HandSPX.excO (xA X.K c) hp.objs.size)).get? (hp.objs.size + 1) = some (PySem.HandSPX.excO (xA X.K c) hp.objs.size) := by heap_get
  have I2 : Inv X pins σ (upd H1 (hp.objs.size + 1) (exo (hp.objs.size + 1) (xA X.K c) none)) ⟨(hp.push (PySem.W.kdv_tup us)).push (PySem.HandSPX.excO (xA X.K c) hp.objs.size), g, dr, tk, os⟩ :=
    I1.laid (t' := tk) kk big (exo_ok at1)
  have r2 : Vals [V.ref (hp.objs.size + 1), y] (Value.ref (hp.objs.size + 1) :: us) := .cons rfl r1
  have lu : (Value.ref (hp.objs.size + 1) :: us).length = 2 := by rw [← r2.length]; rfl
  have lu1 : us.length = 1 := by simpa using lu
  have b2 := hb ⟨(hp.push (PySem.W.kdv_tup us)).push (PySem.HandSPX.excO (xA X.K c) hp.objs.size), g, dr, tk, os⟩ (Value.ref (hp.objs.size + 1) :: us) I2.kIn (by rw [List.append_nil]; exact lu)
  rw [List.append_nil] at b2
  have sp : spI X.K c [V.ref (hp.objs.size + 1), y] (upd H1 (hp.objs.size + 1) (exo (hp.objs.size + 1) (xA X.K c) none))
      (fun v H2 => v = .non ∧ ∃ d, H1 d = none ∧ d ≠ hp.objs.size + 1 ∧ H2 = upd (upd (upd H1 (hp.objs.size + 1) (exo (hp.objs.size + 1) (xA X.K c) none)) d (exd d [(xF c, y)])) (hp.objs.size + 1) (exo (hp.objs.size + 1) (xA X.K c) (some d))) (fun _ _ _ => False) :=
    ⟨_, y, rfl, upd_same, fun d n ne => ⟨rfl, d, by rw [upd_ne ne] at n; exact n, ne, rfl⟩⟩
  refine wpAny_call (PySem.HandSPX.call_own M.G.k.ok.F hT hC (PySem.W.looks_findIn I1.kIn iC) (fun self => PySem.W.bind_fn I1.kIn self tI) (by rw [sizeLine_eq]; omega)
    (codeAny_mono (F1.run _ X.stack _ _ ⟨Value.ref (hp.objs.size + 1) :: us, []⟩ (Value.ref (hp.objs.size + 1) :: us) _ _ (fun _ _ _ => False) (hr.make (xA X.K c) us []) (I2.env0.make (xA X.K c) us []) b2 r2 sp) fun r s' hq => ?_))
  cases r with
  | error er => exact hx pins σ _ _ er s' I2 hq
  | ok fl =>
    cases fl with
    | ret u =>
      obtain ⟨v, H2, os2, bare2, un2, hok2, rv, ev, d, hd1, ne, eH⟩ := hq
      subst ev
      obtain ⟨h2, g2, d2, t2, os'⟩ := s'
      subst eH
      have e1 : (upd (upd (upd H1 (hp.objs.size + 1) (exo (hp.objs.size + 1) (xA X.K c) none)) d (exd d [(xF c, y)])) (hp.objs.size + 1) (exo (hp.objs.size + 1) (xA X.K c) (some d))) (hp.objs.size + 1) = some (exo (hp.objs.size + 1) (xA X.K c) (some d)) := upd_same
      have e2 : (upd (upd (upd H1 (hp.objs.size + 1) (exo (hp.objs.size + 1) (xA X.K c) none)) d (exd d [(xF c, y)])) (hp.objs.size + 1) (exo (hp.objs.size + 1) (xA X.K c) (some d))) d = some (exd d [(xF c, y)]) := by
        rw [upd_ne ne, upd_same]
      have e3 : upd (del (upd (upd (upd H1 (hp.objs.size + 1) (exo (hp.objs.size + 1) (xA X.K c) none)) d (exd d [(xF c, y)])) (hp.objs.size + 1) (exo (hp.objs.size + 1) (xA X.K c) (some d))) (hp.objs.size + 1)) d (.xd [(xF c, y)]) = upd H1 d (.xd [(xF c, y)]) := by
        funext b
        by_cases hb : b = d
        · rw [hb, upd_same, upd_same]
        · rw [upd_ne hb, upd_ne hb]
          by_cases ha : b = hp.objs.size + 1
          · rw [ha, del_same, nH]
          · rw [del_ne ha, upd_ne ha, upd_ne hb, upd_ne ha]
      exact ⟨rv, mk_end (raises_own (by rw [M.G.mro, (bm_base c).1, Bool.or_true]) M.G.ty) I1 big kk un2 hok2 os2 bare2 e1 e2 hd1 (by rw [e3]; exact q1 d hd1)⟩
    | next => exact False.elim hq
    | brk => exact False.elim hq
    | cont => exact False.elim hq
theorem ps_raiseX (hc : X.calm = true) (tk : Takes X W) (M : MkOk X c) (hx : Passes (L2.CX X.prog X.w) X (fun _ _ _ => False)) (hg : Gl X (Str.ofString c)) (hd : (Str.ofString c == ("__debug__" : Str)) = false) (ha : PA X [e] ta)
    (he : starEach [e] X.env = (false, eval e X.env) :: starEach [] X.env) : PS X (.Raise (some (.Call (.Name (Str.ofString c) p) [e] [] pos)) none pos2) (fun _ σ H => tMkX c X.K ta σ H fun cls d H' => W cls d σ H') := ps_raise hc tk (pmk_x M hx hg hd ha he)
end
end Tw
set_option linter.all false
set_option autoImplicit false
/-! TwIR: a small language of trees, its values, its interpreter (total). -/
namespace Tw
open PySem (Str PyData)

/-- values: immutable trees; ref k is the k-th mutable object -/
inductive VV where
  | non | bl (b : Bool) | int (i : Int) | str (x : Str)
  | tup (xs : List VV) | lst (xs : List VV) | scr (xs : List VV) | dct (t : Bool) (kvs : List (VV × VV))
  | obj (c : String) (fs : List (String × VV))
  | exc (c : String) (v : VV)
  | ref (k : Nat)
deriving Inhabited
/-- mutable objects -/
inductive Ob where
  | lst (xs : List VV) | dct (t : Bool) (kvs : List (VV × VV)) | obj (c : String) (fs : List (String × VV))
abbrev Hs := List Ob
abbrev Sv := List (Option VV)

inductive Out (α : Type) where
  | ok (a : α) (s : Hs)
  | exc (v : VV) (s : Hs)
  | bad
namespace Out
variable {α β γ : Type}
def bind : Out α → (α → Hs → Out β) → Out β
  | .ok a s, f => f a s
  | .exc v s, _ => .exc v s
  | .bad, _ => .bad
@[simp] theorem bind_ok (a : α) (s : Hs) (f : α → Hs → Out β) : (Out.ok a s).bind f = f a s := rfl
@[simp] theorem bind_exc (v : VV) (s : Hs) (f : α → Hs → Out β) : (Out.exc v s : Out α).bind f = .exc v s := rfl
@[simp] theorem bind_bad (f : α → Hs → Out β) : (Out.bad : Out α).bind f = .bad := rfl
theorem bind_assoc (o : Out α) (f : α → Hs → Out β) (g : β → Hs → Out γ) : (o.bind f).bind g = o.bind fun a s => (f a s).bind g := by
  cases o <;> rfl
theorem bind_eq_ok {o : Out α} {f : α → Hs → Out β} {b : β} {s' : Hs} (h : o.bind f = .ok b s') : ∃ a s, o = .ok a s ∧ f a s = .ok b s' := by
  cases o with
  | ok a s => exact ⟨a, s, rfl, h⟩
  | exc v s => cases h
  | bad => cases h
end Out
/-- what may not raise -/
def noX {α : Type} : Out α → Out α
  | .ok a s => .ok a s
  | _ => .bad
@[simp] theorem noX_ok {α : Type} (a : α) (s : Hs) : noX (Out.ok a s) = .ok a s := rfl
/-- a value without effect -/
def lift {α : Type} (o : Option α) (s : Hs) : Out α := match o with
  | some a => .ok a s
  | none => .bad
@[simp] theorem lift_some {α : Type} (a : α) (s : Hs) : lift (some a) s = .ok a s := rfl
@[simp] theorem lift_none {α : Type} (s : Hs) : lift (none : Option α) s = .bad := rfl
theorem lift_eq_ok {α : Type} {o : Option α} {s s' : Hs} {a : α} (h : lift o s = .ok a s') : o = some a ∧ s' = s := by
  cases o with
  | none => cases h
  | some b => cases h; exact ⟨rfl, rfl⟩

/-- all or none -/
def mapO {α β : Type} (f : α → Option β) : List α → Option (List β)
  | [] => some []
  | x :: xs => match f x, mapO f xs with
    | some y, some ys => some (y :: ys)
    | _, _ => none

def szL : Nat := 16777216

inductive Bop | add | sub | mul | fdiv | mod | pow deriving DecidableEq, Repr
inductive Cop | eq | ne | lt | le | gt | ge | isin | notin | is_ | isnot deriving DecidableEq, Repr
inductive Ty | int | bool | str | tuple | list | own (c : String) deriving DecidableEq, Repr
inductive Bi
  | len | abs | sum | all | any | max | min | max2 | min2 | max3 | sorted | sortedSum | sortedSumR | minLen | int | str | repr | tuple | list | dict | dset | isinst (ts : List Ty)
deriving DecidableEq, Repr
inductive Bm | append | extend | pop | popAt | reverse | get | count | index | items | join | split | partition | strip
deriving DecidableEq, Repr
/-- literals -/
inductive Lit | non | bl (b : Bool) | int (i : Int) | str (x : Str) deriving DecidableEq, Repr
def Lit.vv : Lit → VV
  | .non => .non
  | .bl b => .bl b
  | .int i => .int i
  | .str x => .str x
inductive Tg | var (i : Nat) | tup (ts : List Tg)
mutual
inductive Ex
  | var (i : Nat) | lit (v : Lit)
  | bin (m : Bool) (o : Bop) (a b : Ex) | neg (a : Ex) | no (a : Ex) | conj (es : List Ex) | disj (es : List Ex)
  | cmp (o : Cop) (a b : Ex) | chain (o p : Cop) (a b c : Ex)
  | ite (c a b : Ex)
  | tup (es : List Ex) | lst (m : Bool) (es : List Ex)
  | idx (a i : Ex) | sl (m : Bool) (a lo hi : Ex)
  | call (keep : Bool) (f : String) (es : List Ex)
  | callk (keep : Bool) (f : String) (perm : List Nat) (es : List Ex)
  | bi (m : Bool) (b : Bi) (es : List Ex)
  | bm (b : Bm) (o : Ex) (es : List Ex)
  | comp (m : Bool) (elt : Ex) (tg : Tg) (it : It) (cs : List Ex) (own : List Nat)
  | dcomp (m t : Bool) (kx vx : Ex) (tg : Tg) (it : It) (cs : List Ex) (own : List Nat)
  | scomp (m : Bool) (elt : Ex) (tg : Tg) (it : It) (cs : List Ex) (own : List Nat)
  | dnew (m t : Bool)
  | fld (e : Ex) (f : Str) | isx (e : Ex) (ts : List Xt)
  | comp2 (m : Bool) (elt : Ex) (tg : Tg) (it : It) (tg2 : Tg) (it2 : It) (own : List Nat)
inductive It
  | pl (e : Ex) | range (es : List Ex) | zip (a b : Ex) | enum (a : Ex)
end
inductive Stm
  | asg (t : Tg) (e : Ex) | sub (o i e : Ex) | aug (i : Nat) (o : Bop) (e : Ex)
  | expr (e : Ex) | ret (e : Ex)
  | ife (c : Ex) (a b : List Stm) | whl (c : Ex) (b : List Stm) | forr (t : Tg) (it : It) (b : List Stm)
  | rai (c : String) (e : Ex) | tryk (b : List Stm) (cs : List String) (i j : Nat)
  | brk | cnt | pss | never
structure Fn where
  ar : Nat
  nl : Nat
  body : List Stm

/-! ### reading values -/
def kid (s : Hs) (k : Nat) : Option (List VV) := match s[k]? with
  | some (.lst xs) => some xs
  | _ => none
/-- the items of a list or a tuple -/
def seqOf (s : Hs) : VV → Option (List VV)
  | .tup xs => some xs
  | .lst xs => some xs
  | .ref k => kid s k
  | _ => none
/-- a walked thing: its items, and the lists that must stay as they are -/
abbrev Src := List VV × List (Nat × List VV)
def guardOf : VV → List VV → List (Nat × List VV)
  | .ref k, xs => [(k, xs)]
  | _, _ => []
def srcOf (s : Hs) (v : VV) : Option Src := (seqOf s v).map fun xs => (xs, guardOf v xs)
mutual
def vbeq : VV → VV → Bool
  | .non, .non => true
  | .bl a, .bl b => a == b
  | .int a, .int b => a == b
  | .str a, .str b => a == b
  | .tup xs, .tup ys => vbeqs xs ys
  | .lst xs, .lst ys => vbeqs xs ys
  | .scr xs, .scr ys => vbeqs xs ys
  | .dct a xs, .dct b ys => a == b && vbeqp xs ys
  | .ref a, .ref b => a == b
  | _, _ => false
def vbeqs : List VV → List VV → Bool
  | [], [] => true
  | x :: xs, y :: ys => vbeq x y && vbeqs xs ys
  | _, _ => false
def vbeqp : List (VV × VV) → List (VV × VV) → Bool
  | [], [] => true
  | x :: xs, y :: ys => vbeqq x y && vbeqp xs ys
  | _, _ => false
def vbeqq : VV × VV → VV × VV → Bool
  | (a, b), (c, d) => vbeq a c && vbeq b d
end
mutual
theorem vbeq_eq : ∀ x y : VV, vbeq x y = true → x = y
  | .non, y, h => by cases y <;> simp_all [vbeq]
  | .bl a, y, h => by cases y <;> simp_all [vbeq]
  | .int a, y, h => by cases y <;> simp_all [vbeq]
  | .str a, y, h => by cases y <;> simp_all [vbeq]
  | .tup xs, y, h => by
    cases y with
    | tup ys => rw [vbeqs_eq xs ys (by simpa [vbeq] using h)]
    | _ => simp [vbeq] at h
  | .lst xs, y, h => by
    cases y with
    | lst ys => rw [vbeqs_eq xs ys (by simpa [vbeq] using h)]
    | _ => simp [vbeq] at h
  | .scr xs, y, h => by
    cases y with
    | scr ys => rw [vbeqs_eq xs ys (by simpa [vbeq] using h)]
    | _ => simp [vbeq] at h
  | .dct a xs, y, h => by
    cases y with
    | dct b ys =>
      simp only [vbeq, Bool.and_eq_true, beq_iff_eq] at h
      rw [h.1, vbeqp_eq xs ys h.2]
    | _ => simp [vbeq] at h
  | .obj _ _, y, h => by simp [vbeq] at h
  | .exc _ _, y, h => by simp [vbeq] at h
  | .ref a, y, h => by cases y <;> simp_all [vbeq]
theorem vbeqs_eq : ∀ x y : List VV, vbeqs x y = true → x = y
  | [], y, h => by cases y <;> simp_all [vbeqs]
  | x :: xs, y, h => by
    cases y with
    | nil => simp [vbeqs] at h
    | cons y ys =>
      simp only [vbeqs, Bool.and_eq_true] at h
      rw [vbeq_eq x y h.1, vbeqs_eq xs ys h.2]
theorem vbeqp_eq : ∀ x y : List (VV × VV), vbeqp x y = true → x = y
  | [], y, h => by cases y <;> simp_all [vbeqp]
  | x :: xs, y, h => by
    cases y with
    | nil => simp [vbeqp] at h
    | cons y ys =>
      simp only [vbeqp, Bool.and_eq_true] at h
      rw [vbeqq_eq x y h.1, vbeqp_eq xs ys h.2]
theorem vbeqq_eq : ∀ x y : VV × VV, vbeqq x y = true → x = y
  | (a, b), (c, d), h => by
    simp only [vbeqq, Bool.and_eq_true] at h
    rw [vbeq_eq a c h.1, vbeq_eq b d h.2]
end
/-! no object, no error within -/
def gokB (s : Hs) (g : List (Nat × List VV)) : Bool := g.all fun p => match s[p.1]? with
  | some (.lst ys) => vbeqs ys p.2
  | _ => false
@[simp] theorem gokB_nil (s : Hs) : gokB s [] = true := rfl
theorem gokB_mem {s : Hs} {g : List (Nat × List VV)} (h : gokB s g = true) {k : Nat} {xs : List VV} (m : (k, xs) ∈ g) : s[k]? = some (.lst xs) := by
  have := List.all_eq_true.mp h _ m
  simp only at this
  split at this
  · rename_i ys e
    rw [e, vbeqs_eq _ _ this]
  · cases this

/-- as data -/
def toD : Nat → Hs → VV → Option PyData
  | _, _, .non => some .none
  | _, _, .bl b => some (.bool b)
  | _, _, .int i => some (.int i)
  | _, _, .str x => if PySem.PyData.strOk x then some (.str x) else none
  | n + 1, s, .tup xs => (mapO (toD n s) xs).map .tuple
  | n + 1, s, .lst xs => (mapO (toD n s) xs).map .list
  | n + 1, s, .ref k => match kid s k with
    | some xs => (mapO (toD n s) xs).map .list
    | none => none
  | _, _, _ => none
def dpt : Nat := 12
def eqV (s : Hs) (x y : VV) : Option Bool := match toD dpt s x, toD dpt s y with
  | some d, some e => some (PyData.eqv d e)
  | _, _ => none
/-- ==: texts by themselves -/
def eqX (s : Hs) (x y : VV) : Option Bool := match x, y with
  | .str a, .str b => some (decide (a = b))
  | x, y => eqV s x y
/-! dicts: keys are ints, or tuples of ints and None -/
inductive DKey | i (n : Int) | t (k : List (Option Int)) deriving DecidableEq
def kF1 : VV → Option (Option Int)
  | .non => some none
  | .int i => some (some i)
  | _ => none
def keyD : VV → Option DKey
  | .int i => some (.i i)
  | .tup xs => (mapO kF1 xs).map .t
  | _ => none
def DKey.tu : DKey → Bool
  | .i _ => false
  | .t _ => true
def dctOf (s : Hs) : VV → Option (Bool × List (VV × VV))
  | .dct t kvs => some (t, kvs)
  | .ref k => match s[k]? with
    | some (.dct t kvs) => some (t, kvs)
    | _ => none
  | _ => none
def lookD (kvs : List (VV × VV)) (k : DKey) : Option VV := (kvs.find? fun p => decide (keyD p.1 = some k)).map (·.2)
def putD (kvs : List (VV × VV)) (k : VV) (d : DKey) (v : VV) : List (VV × VV) := if (lookD kvs d).isSome then kvs.map (fun p => if keyD p.1 = some d then (p.1, v) else p) else kvs ++ [(k, v)]
/-- what a dict holds at a key -/
def getDV (s : Hs) (x y : VV) : Option (Option VV) := match dctOf s x, keyD y with
  | some (t, kvs), some k => if k.tu = t then some (lookD kvs k) else none
  | _, _ => none
/-- the pairs of a comprehension, put in one by one -/
def putAll (t : Bool) : List VV → List (VV × VV) → Option (List (VV × VV))
  | [], acc => some acc
  | .tup [k, v] :: r, acc => match keyD k with
    | some d => if d.tu = t ∧ acc.length < szL then putAll t r (putD acc k d v) else none
    | none => none
  | _, _ => none
def mkD (m t : Bool) (kvs : List (VV × VV)) (s : Hs) : Out VV := if m then .ok (.ref s.length) (s ++ [.dct t kvs]) else .ok (.dct t kvs) s
def trV (s : Hs) : VV → Option Bool
  | .non => some false
  | .bl b => some b
  | .int i => some (i != 0)
  | .str x => if x.length ≤ szL then some (x.length != 0) else none
  | .tup xs => some (!xs.isEmpty)
  | .lst xs => some (!xs.isEmpty)
  | .ref k => (kid s k).map fun xs => !xs.isEmpty
  | _ => none
def intOf : VV → Option Int
  | .int i => some i
  | _ => none
def blOf : VV → Option Bool
  | .bl b => some b
  | _ => none
def natIx (n : Nat) (i : Int) : Option Nat := if 0 ≤ i then (if i < n then some i.toNat else none) else if -(n : Int) ≤ i then some (i + n).toNat else none
def atV (xs : List VV) (i : Int) : Option VV := (natIx xs.length i).bind fun j => xs[j]?
/-- a slice's bound -/
def ixB (n d : Nat) : Option Int → Nat
  | none => d
  | some v => if v < 0 then (v + (n : Int)).toNat else min v.toNat n
def cut (xs : List VV) (lo hi : Option Int) : List VV := (xs.drop (ixB xs.length 0 lo)).take (ixB xs.length xs.length hi - ixB xs.length 0 lo)
def lexLt : List Int → List Int → Bool
  | [], [] => false
  | [], _ :: _ => true
  | _ :: _, [] => false
  | x :: xs, y :: ys => if x = y then lexLt xs ys else decide (x < y)

/-- a new list: frozen, or an object -/
def mkL (m : Bool) (xs : List VV) (s : Hs) : Out VV := if xs.length ≤ szL then (if m then .ok (.ref s.length) (s ++ [.lst xs]) else .ok (.lst xs) s) else .bad
def mkT (xs : List VV) (s : Hs) : Out VV := if xs.length ≤ szL then .ok (.tup xs) s else .bad

/-! ### operators -/
def small (i : Int) : Bool := decide (-(2 ^ 64) < i ∧ i < 2 ^ 64)
def arith (o : Bop) (a b : Int) : Option Int := match o with
  | .add => some (a + b)
  | .sub => some (a - b)
  | .mul => if small a || small b then some (a * b) else none
  | .fdiv => if 0 < b ∧ b < 2 ^ 64 then some (a / b) else none
  | .mod => if 0 < b then some (a % b) else none
  | .pow => if 0 ≤ b ∧ b ≤ 1000 ∧ a.natAbs < 2 ^ 64 then some (a ^ b.toNat) else none
def binV (o : Bop) (x y : VV) (s : Hs) : Out VV := match x, y with
  | .int a, .int b => lift ((arith o a b).map VV.int) s
  | .tup xs, .tup ys => if o = .add then mkT (xs ++ ys) s else .bad
  | _, _ => .bad
/-- + and * of lists make a new list -/
def binL (m : Bool) (o : Bop) (x y : VV) (s : Hs) : Out VV := match o, y with
  | .mul, .int k => match x with
    | .tup _ => .bad
    | _ => match seqOf s x with
      | some xs => if -(2 ^ 62) < k ∧ k < 2 ^ 62 ∧ xs.length * k.toNat ≤ szL then mkL m (List.replicate k.toNat xs).flatten s else .bad
      | none => .bad
  | .add, _ => match x, y with
    | .tup _, _ => .bad
    | _, .tup _ => .bad
    | _, _ => match seqOf s x, seqOf s y with
      | some xs, some ys => mkL m (xs ++ ys) s
      | _, _ => .bad
  | _, _ => .bad
def binG (m : Bool) (o : Bop) (x y : VV) (s : Hs) : Out VV := match x, y with
  | .int _, .int _ => binV o x y s
  | .tup _, .tup _ => binV o x y s
  | _, _ => binL m o x y s
def intsOf : List VV → Option (List Int) := mapO intOf
def ltV (s : Hs) : VV → VV → Option Bool
  | .int a, .int b => some (decide (a < b))
  | .tup xs, .tup ys => match intsOf xs, intsOf ys with
    | some ns, some ms => some (lexLt ns ms)
    | _, _ => none
  | _, _ => none
/-- x in y -/
def inV (s : Hs) (x y : VV) : Option Bool := match seqOf s y with
  | some ys => match toD dpt s x, mapO (toD (dpt - 1) s) ys with
    | some d, some ds => some (ds.any fun z => PyData.eqv z d)
    | _, _ => none
  | none => (getDV s y x).map (·.isSome)
def isV (x y : VV) : Option Bool := match x, y with
  | .bl a, .bl b => some (decide (a = b))
  | .non, .non => some true
  | _, .non => some false
  | _, _ => none
def cmpV (s : Hs) (o : Cop) (x y : VV) : Option Bool := match o with
  | .eq => eqX s x y
  | .ne => (eqX s x y).map fun b => !b
  | .lt => ltV s x y
  | .gt => match x, y with
    | .int a, .int b => some (decide (b < a))
    | _, _ => none
  | .le => match x, y with
    | .int a, .int b => some (decide (a ≤ b))
    | _, _ => none
  | .ge => match x, y with
    | .int a, .int b => some (decide (b ≤ a))
    | _, _ => none
  | .isin => inV s x y
  | .notin => (inV s x y).map fun b => !b
  | .is_ => isV x y
  | .isnot => (isV x y).map fun b => !b
def isTy (s : Hs) (v : VV) : Ty → Bool
  | .int => match v with
    | .int _ => true
    | .bl _ => true
    | _ => false
  | .bool => match v with
    | .bl _ => true
    | _ => false
  | .str => match v with
    | .str _ => true
    | _ => false
  | .tuple => match v with
    | .tup _ => true
    | _ => false
  | .list => match v with
    | .lst _ => true
    | .ref k => (kid s k).isSome
    | _ => false
  | .own c => match v with
    | .exc d _ => c == d
    | .obj d _ => c == d
    | _ => false
/-- a tree's own class -/
def vTy (s : Hs) : VV → Option String
  | .non => some "NoneType"
  | .bl _ => some "bool"
  | .int _ => some "int"
  | .str _ => some "str"
  | .tup _ => some "tuple"
  | .lst _ => some "list"
  | .ref k => if (kid s k).isSome then some "list" else none
  | _ => none
def insI (x : Int) : List Int → List Int
  | [] => [x]
  | y :: ys => if x ≤ y then x :: y :: ys else y :: insI x ys
def sortI : List Int → List Int
  | [] => []
  | x :: xs => insI x (sortI xs)
/-- a set's members, rising -/
def insS (x : Int) : List Int → List Int
  | [] => [x]
  | y :: ys => if x < y then x :: y :: ys else if x = y then y :: ys else y :: insS x ys
def sortS : List Int → List Int
  | [] => []
  | x :: xs => insS x (sortS xs)
def maxI : List Int → Option Int
  | [] => none
  | x :: xs => some (xs.foldl (fun a b => if b > a then b else a) x)
def minI : List Int → Option Int
  | [] => none
  | x :: xs => some (xs.foldl (fun a b => if b < a then b else a) x)
/-- the items of a list -/
def lstOf (s : Hs) : VV → Option (List VV)
  | .lst xs => some xs
  | .ref k => kid s k
  | _ => none
def seqInts (s : Hs) (v : VV) : Option (List Int) := (lstOf s v).bind intsOf
def seqBls (s : Hs) (v : VV) : Option (List Bool) := (lstOf s v).bind (mapO blOf)
/-- how long its repr may be -/
def wgt : PyData → Nat
  | .none => 1
  | .bool _ => 1
  | .int i => if i.natAbs < 10 ^ 30 then 1 else 1000000
  | .str x => 1 + x.length
  | .list xs => 1 + wgts xs
  | .tuple xs => 1 + wgts xs
  | .dict _ => 1000000
where wgts : List PyData → Nat
  | [] => 0
  | x :: xs => wgt x + wgts xs
def reprV (s : Hs) (v : VV) : Option Str := match toD dpt s v with
  | some d => if wgt d ≤ 400000 then some d.shown else none
  | none => none
def biV (m : Bool) (b : Bi) (vs : List VV) (s : Hs) : Out VV := match b, vs with
  | .len, [v] => match v with
    | .str x => if x.length ≤ szL then .ok (.int x.length) s else .bad
    | _ => lift ((seqOf s v).map fun xs => .int xs.length) s
  | .abs, [.int i] => .ok (.int (if i < 0 then -i else i)) s
  | .sum, [v] => lift ((seqInts s v).map fun ns => .int ns.sum) s
  | .all, [v] => lift ((seqBls s v).map fun bs => .bl (bs.all id)) s
  | .any, [v] => lift ((seqBls s v).map fun bs => .bl (bs.any id)) s
  | .max, [v] => lift (((seqInts s v).bind maxI).map .int) s
  | .min, [v] => lift (((seqInts s v).bind minI).map .int) s
  | .max2, [.int i, .int j] => .ok (.int (if j > i then j else i)) s
  | .min2, [.int i, .int j] => .ok (.int (if j < i then j else i)) s
  | .sorted, [v] => match seqInts s v with
    | some ns => mkL m ((sortI ns).map .int) s
    | none => .bad
  | .int, [.int i] => .ok (.int i) s
  | .int, [.bl k] => .ok (.int (if k then 1 else 0)) s
  | .repr, [v] => lift ((reprV s v).map .str) s
  | .tuple, [v] => match seqOf s v with
    | some xs => mkT xs s
    | none => .bad
  | .list, [v] => match seqOf s v with
    | some xs => mkL m xs s
    | none => .bad
  | .isinst ts, [v] => match vTy s v with
    | some _ => .ok (.bl (ts.any (isTy s v))) s
    | none => .bad
  | _, _ => .bad
/-- whose methods -/
def bmTy (b : Bm) (v : VV) (s : Hs) : Option Unit := match b with
  | .append | .extend | .pop | .popAt | .reverse | .count => (lstOf s v).map fun _ => ()
  | .get => (dctOf s v).map fun _ => ()
  | _ => none
/-- methods of built-in types -/
def bmV (b : Bm) (v : VV) (vs : List VV) (s : Hs) : Out VV := match b, v, vs with
  | .append, .ref k, [x] => match kid s k with
    | some xs => if xs.length < szL then .ok .non (s.set k (.lst (xs ++ [x]))) else .bad
    | none => .bad
  | .extend, .ref k, [x] => match kid s k, lstOf s x with
    | some xs, some ys => if xs.length + ys.length ≤ szL then .ok .non (s.set k (.lst (xs ++ ys))) else .bad
    | _, _ => .bad
  | .pop, .ref k, [] => match kid s k with
    | some xs => match xs[xs.length - 1]? with
      | some y => .ok y (s.set k (.lst xs.dropLast))
      | none => .bad
    | none => .bad
  | .get, v, [k, x] => match getDV s v k with
    | some o => .ok (o.getD x) s
    | none => .bad
  | .count, v, [.int k] => lift ((seqInts s v).map fun ns => .int (ns.count k : Nat)) s
  | _, _, _ => .bad
/-- d[i] = v -/
def setD (s : Hs) (k : Nat) (i v : VV) : Out Unit := match s[k]?, keyD i with
  | some (.dct t kvs), some d => if d.tu = t ∧ kvs.length < szL then .ok () (s.set k (.dct t (putD kvs i d v))) else .bad
  | _, _ => .bad
def setAt (s : Hs) (o i v : VV) : Out Unit := match o, i with
  | .ref k, .int j => match kid s k with
    | some xs => match natIx xs.length j with
      | some n => .ok () (s.set k (.lst (xs.set n v)))
      | none => .bad
    | none => setD s k i v
  | .ref k, .tup _ => setD s k i v
  | _, _ => .bad

def gIdx (x y : VV) (s : Hs) : Out VV := match seqOf s x with
  | some xs => (match intOf y with
    | some j => lift (atV xs j) s
    | none => .bad)
  | none => (match getDV s x y with
    | some o => lift o s
    | none => .bad)
def gSl (m : Bool) (x : VV) (l u : Option Int) (s : Hs) : Out VV := match x with
  | .tup xs => .ok (.tup (cut xs l u)) s
  | .scr xs => mkL m (cut xs l u) s
  | .lst xs => mkL m (cut xs l u) s
  | .ref k => match kid s k with
    | some xs => mkL m (cut xs l u) s
    | none => .bad
  | _ => .bad
def gCmp (o : Cop) (x y : VV) (s : Hs) : Out VV := lift ((cmpV s o x y).map VV.bl) s
def gNeg (x : VV) (s : Hs) : Out VV := lift ((intOf x).map fun i => .int (-i)) s
/-- a field of an error of ours -/
def gFld (f : Str) (x : VV) (s : Hs) : Out VV := match x with
  | .exc c v => if xF c = f then .ok v s else .bad
  | _ => .bad
/-- isinstance of an error of ours, or of None -/
def isxV (ts : List Xt) : VV → Option Bool
  | .exc c _ => some (ts.any (subX c))
  | .non => some false
  | _ => none
/-- a slice's bound, where it is written -/
def bndOf : Ex → VV → Option (Option Int)
  | .lit .non, _ => some none
  | _, v => (intOf v).map some
/-! ### the walk -/
mutual
def asg : Tg → VV → Sv → Option Sv
  | .var i, v, σ => some (σ.set i (some v))
  | .tup ts, v, σ => match v with
    | .tup xs => asgs ts xs σ
    | .lst xs => asgs ts xs σ
    | _ => none
def asgs : List Tg → List VV → Sv → Option Sv
  | [], [], σ => some σ
  | t :: ts, v :: vs, σ => match asg t v σ with
    | some σ' => asgs ts vs σ'
    | none => none
  | _, _, _ => none
end
def wip (σ : Sv) : List Nat → Sv
  | [] => σ
  | v :: vs => (wip σ vs).set v none
def enumV (xs : List VV) : List VV := xs.mapIdx fun i v => .tup [.int i, v]
def zipV (xs ys : List VV) : List VV := (xs.zip ys).map fun p => .tup [p.1, p.2]
def isTup : VV → Bool
  | .tup _ => true
  | _ => false
def gZip (x y : VV) (s : Hs) : Out Src := if isTup x == isTup y then (match srcOf s x, srcOf s y with
    | some r, some q => .ok (zipV r.1 q.1, r.2 ++ q.2) s
    | _, _ => .bad) else .bad
def gEnum (x : VV) (s : Hs) : Out Src := lift ((srcOf s x).map fun r => (enumV r.1, r.2)) s
def gRange (vs : List VV) (s : Hs) : Out Src := match vs with
  | [.int n] => if -(2 ^ 62) ≤ n ∧ n < 2 ^ 62 then .ok ((List.range n.toNat).map fun (i : Nat) => VV.int i, []) s else .bad
  | [.int a, .int b] => if -(2 ^ 62) ≤ a ∧ a < 2 ^ 62 ∧ -(2 ^ 62) ≤ b ∧ b < 2 ^ 62 then .ok ((List.range (b - a).toNat).map fun (i : Nat) => VV.int (a + i), []) s else .bad
  | _ => .bad
/-- the turns of a comprehension -/
def compL (g : List (Nat × List VV)) (step : VV → Hs → Out (Option VV)) : List VV → Hs → Out (List VV)
  | [], s => if gokB s g then .ok [] s else .bad
  | x :: xs, s => if gokB s g then (step x s).bind fun o s => (compL g step xs s).bind fun r s => .ok (o.toList ++ r) s else .bad
abbrev Cl := Bool → String → List VV → Hs → Out VV
mutual
def ev (cl : Cl) : Ex → Sv → Hs → Out VV
  | .var i, σ, s => match σ[i]? with
    | some (some v) => .ok v s
    | _ => .bad
  | .lit v, _, s => .ok v.vv s
  | .bin m o a b, σ, s => (ev cl a σ s).bind fun x s => (ev cl b σ s).bind fun y s => binG m o x y s
  | .neg a, σ, s => (ev cl a σ s).bind fun x s => gNeg x s
  | .no a, σ, s => (ev cl a σ s).bind fun x s => lift ((trV s x).map fun b => .bl (!b)) s
  | .conj es, σ, s => evAnd cl es σ s
  | .disj es, σ, s => evOr cl es σ s
  | .cmp o a b, σ, s => (ev cl a σ s).bind fun x s => (ev cl b σ s).bind fun y s => gCmp o x y s
  | .chain o p a b c, σ, s => (ev cl a σ s).bind fun x s => (ev cl b σ s).bind fun y s => (lift (cmpV s o x y) s).bind fun t s =>
      if t then (ev cl c σ s).bind fun z s => gCmp p y z s else .ok (.bl false) s
  | .ite c a b, σ, s => (ev cl c σ s).bind fun x s => (lift (trV s x) s).bind fun t s => if t then ev cl a σ s else ev cl b σ s
  | .tup es, σ, s => (evs cl es σ s).bind fun vs s => mkT vs s
  | .lst m es, σ, s => (evs cl es σ s).bind fun vs s => mkL m vs s
  | .idx a i, σ, s => (ev cl a σ s).bind fun x s => (ev cl i σ s).bind fun y s => gIdx x y s
  | .sl m a lo hi, σ, s => (ev cl a σ s).bind fun x s => (ev cl lo σ s).bind fun l s => (lift (bndOf lo l) s).bind fun l s =>
      (ev cl hi σ s).bind fun u s => (lift (bndOf hi u) s).bind fun u s => gSl m x l u s
  | .call keep f es, σ, s => (evs cl es σ s).bind fun vs s => cl keep f vs s
  | .callk keep f perm es, σ, s => (evs cl es σ s).bind fun vs s => cl keep f (perm.filterMap fun i => vs[i]?) s
  | .bi m b es, σ, s => (evs cl es σ s).bind fun vs s => biV m b vs s
  | .bm b o es, σ, s => (ev cl o σ s).bind fun v s => (lift (bmTy b v s) s).bind fun _ s => (evs cl es σ s).bind fun vs s => bmV b v vs s
  | .comp m elt tg it cs own, σ, s => (evIt cl it σ s).bind fun r s =>
      (noX (compL r.2 (fun x s => match asg tg x (wip σ own) with
        | none => .bad
        | some σ' => (evC cl cs σ' s).bind fun b s => if b then (ev cl elt σ' s).bind fun v s => .ok (some v) s else .ok none s) r.1 s)).bind fun vs s => mkL m vs s
  | .dcomp m t kx vx tg it cs own, σ, s => (evIt cl it σ s).bind fun r s =>
      (noX (compL r.2 (fun x s => match asg tg x (wip σ own) with
        | none => .bad
        | some σ' => (evC cl cs σ' s).bind fun b s => if b then (ev cl kx σ' s).bind fun k s => (ev cl vx σ' s).bind fun v s => .ok (some (.tup [k, v])) s else .ok none s) r.1 s)).bind fun vs s => (lift (putAll t vs []) s).bind fun kvs s => mkD m t kvs s
  | .scomp m elt tg it cs own, σ, s => (evIt cl it σ s).bind fun r s =>
      (noX (compL r.2 (fun x s => match asg tg x (wip σ own) with
        | none => .bad
        | some σ' => (evC cl cs σ' s).bind fun b s => if b then (ev cl elt σ' s).bind fun v s => .ok (some v) s else .ok none s) r.1 s)).bind fun vs s => (lift (intsOf vs) s).bind fun ns s => if (sortS ns).length < 64 then mkL m ((sortS ns).map .int) s else .bad
  | .dnew m t, _, s => mkD m t [] s
  | .fld e f, σ, s => (ev cl e σ s).bind fun x s => gFld f x s
  | .isx e ts, σ, s => (ev cl e σ s).bind fun x s => lift ((isxV ts x).map .bl) s
  | .comp2 _ _ _ _ _ _ _, _, _ => .bad
def evs (cl : Cl) : List Ex → Sv → Hs → Out (List VV)
  | [], _, s => .ok [] s
  | e :: es, σ, s => (ev cl e σ s).bind fun v s => (evs cl es σ s).bind fun vs s => .ok (v :: vs) s
def evAnd (cl : Cl) : List Ex → Sv → Hs → Out VV
  | [], _, _ => .bad
  | [e], σ, s => ev cl e σ s
  | e :: es, σ, s => (ev cl e σ s).bind fun v s => (lift (trV s v) s).bind fun t s => if t then evAnd cl es σ s else .ok v s
def evOr (cl : Cl) : List Ex → Sv → Hs → Out VV
  | [], _, _ => .bad
  | [e], σ, s => ev cl e σ s
  | e :: es, σ, s => (ev cl e σ s).bind fun v s => (lift (trV s v) s).bind fun t s => if t then .ok v s else evOr cl es σ s
/-- a comprehension's tests -/
def evC (cl : Cl) : List Ex → Sv → Hs → Out Bool
  | [], _, s => .ok true s
  | e :: es, σ, s => (ev cl e σ s).bind fun v s => (lift (trV s v) s).bind fun t s => if t then evC cl es σ s else .ok false s
/-- what is walked -/
def evIt (cl : Cl) : It → Sv → Hs → Out Src
  | .range es, σ, s => (evs cl es σ s).bind fun vs s => gRange vs s
  | .zip a b, σ, s => (ev cl a σ s).bind fun x s => (ev cl b σ s).bind fun y s => gZip x y s
  | .enum a, σ, s => (ev cl a σ s).bind fun x s => gEnum x s
  | .pl e, σ, s => (ev cl e σ s).bind fun x s => lift (srcOf s x) s
end

/-- how a statement ends; xc: an error, with the slots as they stand -/
inductive Fl | nx (σ : Sv) | rt (v : VV) | bk (σ : Sv) | ct (σ : Sv) | xc (v : VV) (σ : Sv)
def cat (σ : Sv) : Out Fl → Out Fl
  | .exc v s => .ok (.xc v σ) s
  | o => o
/-- the turns of a for -/
def forL (g : List (Nat × List VV)) (step : VV → Sv → Hs → Out Fl) : List VV → Sv → Hs → Out Fl
  | [], σ, s => if gokB s g then .ok (.nx σ) s else .bad
  | x :: xs, σ, s => if gokB s g then (step x σ s).bind fun f s => match f with
    | .nx σ => forL g step xs σ s
    | .ct σ => forL g step xs σ s
    | .bk σ => .ok (.nx σ) s
    | .rt v => .ok (.rt v) s
    | .xc v σ => .ok (.xc v σ) s
    else .bad
def whileL (test : Sv → Hs → Out Bool) (step : Sv → Hs → Out Fl) : Nat → Sv → Hs → Out Fl
  | 0, _, _ => .bad
  | n + 1, σ, s => cat σ ((test σ s).bind fun b s => if b then (step σ s).bind fun f s => match f with
    | .nx σ => whileL test step n σ s
    | .ct σ => whileL test step n σ s
    | .bk σ => .ok (.nx σ) s
    | .rt v => .ok (.rt v) s
    | .xc v σ => .ok (.xc v σ) s
    else .ok (.nx σ) s)
def wfuel : Nat := 1000000
/-- an error is caught, kept in slot j (slot i its name, unbound behind) -/
def tryF (cs : List String) (i j : Nat) (f : Fl) (s : Hs) : Out Fl := match f with
  | .xc (.exc c v) σ => if cs.contains c then .ok (.nx ((σ.set j (some (.exc c v))).set i none)) s else .ok (.xc (.exc c v) σ) s
  | .xc _ _ => .bad
  | f => .ok f s
mutual
def exs (cl : Cl) : List Stm → Sv → Hs → Out Fl
  | [], σ, s => .ok (.nx σ) s
  | st :: r, σ, s => (exe cl st σ s).bind fun f s => match f with
    | .nx σ => exs cl r σ s
    | f => .ok f s
def exe (cl : Cl) : Stm → Sv → Hs → Out Fl
  | .asg t e, σ, s => cat σ ((ev cl e σ s).bind fun v s => lift ((asg t v σ).map Fl.nx) s)
  | .sub o i e, σ, s => cat σ ((ev cl e σ s).bind fun v s => (ev cl o σ s).bind fun x s => (ev cl i σ s).bind fun y s => (setAt s x y v).bind fun _ s => .ok (.nx σ) s)
  | .aug i o e, σ, s => match σ[i]? with
    | some (some x) => cat σ ((ev cl e σ s).bind fun y s => match x, y with
      | .int _, .int _ => (binV o x y s).bind fun z s => .ok (.nx (σ.set i (some z))) s
      | _, _ => .bad)
    | _ => .bad
  | .expr e, σ, s => cat σ ((ev cl e σ s).bind fun _ s => .ok (.nx σ) s)
  | .ret e, σ, s => cat σ ((ev cl e σ s).bind fun v s => .ok (.rt v) s)
  | .ife c a b, σ, s => cat σ ((ev cl c σ s).bind fun x s => (lift (trV s x) s).bind fun t s => if t then exs cl a σ s else exs cl b σ s)
  | .whl c b, σ, s => whileL (fun σ s => (ev cl c σ s).bind fun x s => lift (trV s x) s) (fun σ s => exs cl b σ s) wfuel σ s
  | .forr t it b, σ, s => cat σ ((evIt cl it σ s).bind fun r s => forL r.2 (fun x σ s => match asg t x σ with
      | some σ => exs cl b σ s
      | none => .bad) r.1 σ s)
  | .rai c e, σ, s => cat σ ((ev cl e σ s).bind fun v s => .exc (.exc c v) s)
  | .tryk b cs i j, σ, s => (noX (exs cl b σ s)).bind fun f s => tryF cs i j f s
  | .brk, σ, s => .ok (.bk σ) s
  | .cnt, σ, s => .ok (.ct σ) s
  | .pss, σ, s => .ok (.nx σ) s
  | .never, _, _ => .bad
end

/-! ### calls -/
mutual
def pur : VV → Bool
  | .non => true
  | .bl _ => true
  | .int _ => true
  | .str _ => true
  | .tup xs => purs xs
  | .lst xs => purs xs
  | .scr xs => purs xs
  | .dct _ kvs => purp kvs
  | .obj _ _ => false
  | .exc _ v => pur v
  | .ref _ => false
def purs : List VV → Bool
  | [] => true
  | x :: xs => pur x && purs xs
def purp : List (VV × VV) → Bool
  | [] => true
  | p :: ps => purq p && purp ps
def purq : VV × VV → Bool
  | (k, v) => pur k && pur v
end
/-- a value handed back: its own new lists become trees -/
def frz : Nat → Nat → Hs → VV → Option VV
  | n + 1, lim, s, .ref k => if k < lim then some (.ref k) else match s[k]? with
    | some (.lst xs) => (mapO (frz n lim s) xs).map .lst
    | some (.dct t kvs) => (mapO (fun p => (frz n lim s p.2).map fun v => (p.1, v)) kvs).map (.dct t)
    | _ => none
  | n + 1, lim, s, .dct t kvs => (mapO (fun p => (frz n lim s p.2).map fun v => (p.1, v)) kvs).map (.dct t)
  | n + 1, lim, s, .tup xs => (mapO (frz n lim s) xs).map .tup
  | n + 1, lim, s, .lst xs => (mapO (frz n lim s) xs).map .lst
  | _, _, _, v => if pur v then some v else none
/-- what stood before stands still, or is plain -/
def Stays (s0 s1 : Hs) : Prop := s0.length ≤ s1.length ∧ ∀ j, j < s0.length → s1[j]? = s0[j]? ∨ ∃ xs, s1[j]? = some (.lst xs) ∧ purs xs = true
open Classical in
noncomputable def fin (keep : Bool) (s0 : Hs) (v : VV) (s1 : Hs) : Out VV :=
  if keep then .ok v s1 else if Stays s0 s1 then (if pur v then .ok v (s1.take s0.length) else match frz 6 s0.length s1 v with
    | some v => .ok v (s1.take s0.length)
    | none => .bad) else .bad
abbrev Pg := String → Option Fn
/-- how a body's end leaves the call -/
noncomputable def outF (keep : Bool) (s0 : Hs) : Fl → Hs → Out VV
  | .rt v, s1 => fin keep s0 v s1
  | .nx _, s1 => fin keep s0 .non s1
  | .xc (.exc c v) _, s1 => (fin keep s0 v s1).bind fun v s => .exc (.exc c v) s
  | _, _ => .bad
noncomputable def callF (P : Pg) : Nat → Cl
  | 0, _, _, _, _ => .bad
  | n + 1, keep, f, vs, s => match P f with
    | none => .bad
    | some fn => if vs.length = fn.ar then (exs (callF P n) fn.body (vs.map some ++ List.replicate (fn.nl - fn.ar) none) s).bind (outF keep s) else .bad
theorem callF_run {P : Pg} {n : Nat} {keep : Bool} {f : String} {vs : List VV} {s : Hs} {fn : Fn} (hP : P f = some fn) (h : vs.length = fn.ar) :
    callF P (n + 1) keep f vs s = (exs (callF P n) fn.body (vs.map some ++ List.replicate (fn.nl - fn.ar) none) s).bind (outF keep s) := by
  show (match P f with
    | none => Out.bad
    | some fn => if vs.length = fn.ar then (exs (callF P n) fn.body (vs.map some ++ List.replicate (fn.nl - fn.ar) none) s).bind (outF keep s) else Out.bad) = _
  rw [hP]
  exact if_pos h
end Tw
set_option Elab.async false
set_option linter.all false
set_option autoImplicit false
set_option maxRecDepth 100000
/-! TwDic: dicts whose keys are tuples of ints and None, by their own object. -/
namespace Tw
open PySem PySem.Spec PyProof.Rows L2
abbrev Ad := PySem.Addr
/-- a key: a tuple of ints and None -/
abbrev KF := List (Option Int)
def k1 : Option Int → NestedKey
  | none => .none
  | some i => .num i
def kN (k : KF) : NestedKey := .tup (k.map k1)
def h1f : Option Int → Int
  | none => reduceHash 0xFCA86420
  | some i => hashInt i
def hash0 (k : KF) : Int := reduceHash (Builtin.Tuple.tupleHashOf (k.map h1f))
def k1V : Option Int → V
  | none => .non
  | some i => .int i
theorem k1_inj : ∀ {a b : Option Int}, k1 a = k1 b → a = b
  | none, none, _ => rfl
  | some a, some b, h => by
    simp only [k1] at h
    injection h with h
    rw [h]
  | none, some b, h => by simp [k1] at h
  | some a, none, h => by simp [k1] at h
theorem k1s_inj : ∀ {a b : KF}, a.map k1 = b.map k1 → a = b
  | [], [], _ => rfl
  | [], _ :: _, h => by simp at h
  | _ :: _, [], h => by simp at h
  | x :: xs, y :: ys, h => by
    rw [List.map_cons, List.map_cons] at h
    injection h with h1 h2
    rw [k1_inj h1, k1s_inj h2]
theorem kN_inj {a b : KF} (h : kN a = kN b) : a = b := by
  unfold kN at h
  injection h with h
  exact k1s_inj h
theorem hashes_k (w : World) : ∀ k : KF, NestedKey.hashes w (k.map k1) = k.map h1f
  | [] => rfl
  | none :: k => by
    rw [List.map_cons, List.map_cons, ← hashes_k w k]
    rfl
  | some i :: k => by
    rw [List.map_cons, List.map_cons, ← hashes_k w k]
    rfl
theorem hash_k (w : World) (k : KF) : (kN k).hash w = hash0 k := by
  unfold kN hash0
  rw [← hashes_k w k]
  rfl
theorem depth_k (k : KF) : (kN k).depth ≤ 8 := by
  have : ∀ k : KF, NestedKey.depthAll (k.map k1) = 0 := by
    intro k
    induction k with
    | nil => rfl
    | cons a k ih =>
      rw [List.map_cons]
      unfold NestedKey.depthAll
      rw [ih]
      cases a <;> rfl
  show NestedKey.depthAll (k.map k1) + 1 ≤ 8
  rw [this]
  omega
theorem items_k {h : Heap} : ∀ {k : KF} {us : List Value}, Vals (k.map k1V) us → NestedAll h (k.map k1) us
  | [], _, r => by cases r; exact .nil
  | none :: k, _, r => by
    rw [List.map_cons] at r
    cases r with
    | cons r1 r2 =>
      cases (show _ = Value.none from r1)
      exact .cons .none (items_k r2)
  | some i :: k, _, r => by
    rw [List.map_cons] at r
    cases r with
    | cons r1 r2 =>
      obtain ⟨t, e⟩ := (show ∃ t, _ = Value.int i t from r1)
      subst e
      exact .cons (.int i t) (items_k r2)
/-- where a key lies -/
def KeyAt (K : PySem.W.Frag) (H : Hp) (k : KF) (b : Ad) : Prop := SqT K H b (k.map k1V)
/-- the pairs of a dict: key, where the key lies, value -/
abbrev Prs := List (KF × Ad × V)
def DicR (h : Heap) (a : Ad) (xs : Prs) : Prop := xs.length ≤ sizeLine ∧ (a == sysModules) = false ∧ ∃ ys : List (KF × Ad × Value), Paired (fun (p : KF × Ad × V) (q : KF × Ad × Value) => p.1 = q.1 ∧ p.2.1 = q.2.1 ∧ RelV p.2.2 q.2.2) xs ys ∧
  ∃ o es ep, h.get? a = some o ∧ o.ExactDict ∧ o.data = .dict es ep ∧ es.toList = ys.map (fun y => (⟨hash0 y.1, .ref y.2.1, y.2.2⟩ : DictEntry)) ∧ (xs.map (·.1)).Nodup
def dicO (a : Ad) (xs : Prs) : HO := .ext fun h => DicR h a xs
theorem dicO_new {P : Program} {w : World} {H : Hp} {h : Heap} {a : Ad} {xs : Prs} (r : DicR h a xs) : ObjOk P w H h a (dicO a xs) := by
  have ⟨_, _, _, _, o, _, _, ho, _⟩ := r
  refine ⟨r, ⟨o, ho⟩, fun h1 h2 p k => ?_⟩
  obtain ⟨z, y, ys, q, o, es, ep, e, c⟩ := p
  exact ⟨z, y, ys, q, o, es, ep, k _ e, c⟩
/-- the pairs as the library has them -/
def zsOf (ys : List (KF × Ad × Value)) : List (NestedKey × Ad × Value) := ys.map fun y => (kN y.1, y.2.1, y.2.2)
def valN (xs : Prs) (k : KF) : Option V := (xs.find? fun x => decide (x.1 = k)).map (·.2.2)
def putN (xs : Prs) (k : KF) (b : Ad) (v : V) : Prs := if (valN xs k).isSome then xs.map (fun x => if x.1 = k then (x.1, x.2.1, v) else x) else xs ++ [(k, b, v)]
abbrev PR : KF × Ad × V → KF × Ad × Value → Prop := fun p q => p.1 = q.1 ∧ p.2.1 = q.2.1 ∧ RelV p.2.2 q.2.2
theorem keys_eq : ∀ {l : Prs} {m : List (KF × Ad × Value)}, Paired PR l m → l.map (·.1) = m.map (·.1)
  | _, _, .nil => rfl
  | _, _, .cons hq t => by rw [List.map_cons, List.map_cons, hq.1, keys_eq t]
section
variable {X : Cx} {pins : List (Addr × Obj)} {σ : L2.St} {H : Hp} {s : Shared} {a b : Ad} {xs : Prs} {k : KF} {y v : V} {u r : Value} {A : Around} {E : Value → Shared → Prop}
theorem key_is (I : Inv X pins σ H s) (h : KeyAt X.K H k b) : (nestedKind X.prog X.w).is s.heap (kN k) b := by
  obtain ⟨its, r, ⟨o, h1, h2, n, h3⟩, z⟩ := I.tuple h
  exact ⟨.tup h1 h2 h3 (by simpa using items_k r), depth_k k⟩
theorem dic_of (I : Inv X pins σ H s) (e : H a = some (dicO a xs)) (hk : ∀ x ∈ xs, KeyAt X.K H x.1 x.2.1) : xs.length ≤ sizeLine ∧ (a == sysModules) = false ∧ ∃ ys, Paired PR xs ys ∧ s.heap.DictOfH (nestedKind X.prog X.w) a (zsOf ys) := by
  obtain ⟨⟨z, y, ys, q, o, es, ep, e1, e2, e3, e4, e5⟩, _⟩ := (show ObjOk X.prog X.w H s.heap a (dicO a xs) from I.hok a _ e)
  refine ⟨z, y, ys, q, o, es, ep, e1, e2, e3, ?_, fun z hz => ?_, ?_⟩
  · rw [e4]
    unfold zsOf
    rw [List.map_map]
    apply List.map_congr_left
    intro y _
    show _ = entryOfKey (nestedKind X.prog X.w) (kN y.1, y.2.1, y.2.2)
    unfold entryOfKey
    show _ = (⟨(kN y.1).hash X.w, _, _⟩ : DictEntry)
    rw [hash_k]
  · obtain ⟨y, hy, rfl⟩ := List.mem_map.mp hz
    have : ∀ {l : Prs} {m : List (KF × Ad × Value)}, Paired PR l m → (∀ x ∈ l, KeyAt X.K H x.1 x.2.1) → ∀ y ∈ m, KeyAt X.K H y.1 y.2.1 := by
      intro l m q
      induction q with
      | nil => intro _ x hx; exact nomatch hx
      | @cons p q ps qs hq t ih =>
        intro hl x hx
        rcases List.mem_cons.mp hx with e | hx
        · subst e
          rw [← hq.1, ← hq.2.1]
          exact hl p List.mem_cons_self
        · exact ih (fun z hz => hl z (List.mem_cons_of_mem _ hz)) x hx
    exact key_is I (this q hk y hy)
  · have e6 : xs.map (·.1) = ys.map (·.1) := keys_eq q
    unfold zsOf
    rw [List.map_map]
    rw [e6] at e5
    have : ∀ l : List (KF × Ad × Value), (l.map (·.1)).Nodup → (l.map ((·.1) ∘ fun y => (kN y.1, y.2.1, y.2.2))).Nodup := by
      intro l
      induction l with
      | nil => intro _; exact List.nodup_nil
      | cons x l ih =>
        intro h
        rw [List.map_cons, List.nodup_cons] at h ⊢
        refine ⟨fun hm => h.1 ?_, ih h.2⟩
        obtain ⟨z, hz, ez⟩ := List.mem_map.mp hm
        exact List.mem_map.mpr ⟨z, hz, kN_inj ez⟩
    exact this ys e5
theorem valN_at : ∀ {xs : Prs} {ys : List (KF × Ad × Value)}, Paired PR xs ys → RelO (valN xs k) ((atKey (zsOf ys) (kN k)).map (·.2))
  | _, _, .nil => trivial
  | _, _, @Paired.cons _ _ _ p q ps qs hq t => by
    have ih := valN_at t
    unfold valN atKey zsOf at ih ⊢
    rw [List.map_cons, List.find?_cons, List.find?_cons]
    by_cases e : p.1 = k
    · have e2 : kN q.1 = kN k := by rw [← hq.1, e]
      simp only [e, e2, decide_true]
      exact hq.2.2
    · have e2 : ¬ kN q.1 = kN k := fun z => e (by rw [hq.1]; exact kN_inj z)
      simp only [e, e2, decide_false]
      exact ih
theorem pairs_len : ∀ {l : Prs} {m : List (KF × Ad × Value)}, Paired PR l m → l.length = m.length
  | _, _, .nil => rfl
  | _, _, .cons hq t => by rw [List.length_cons, List.length_cons, pairs_len t]
theorem valN_len : (putN xs k b v).length ≤ xs.length + 1 := by
  unfold putN
  split
  · rw [List.length_map]; omega
  · rw [List.length_append]; simp
/-- what a store leaves, pair by pair -/
theorem stored_of {ys : List (KF × Ad × Value)} (q : Paired PR xs ys) (rv : RelV v r) : ∃ zs, Paired PR (putN xs k b v) zs ∧ storedH (zsOf ys) (kN k) b r = zsOf zs := by
  have hs : (valN xs k).isSome = (atKey (zsOf ys) (kN k)).isSome := by
    have := (valN_at (k := k) q).isSome_eq
    rwa [Option.isSome_map] at this
  unfold putN storedH
  rw [← hs]
  clear hs
  cases (valN xs k).isSome with
  | true =>
    rw [if_pos rfl, if_pos rfl]
    refine ⟨ys.map fun y => if y.1 = k then (y.1, y.2.1, r) else y, ?_, ?_⟩
    · induction q with
      | nil => exact .nil
      | @cons p q ps qs hq t ih =>
        rw [List.map_cons, List.map_cons]
        refine .cons ?_ ih
        by_cases e : p.1 = k
        · rw [if_pos e, if_pos (by rw [← hq.1]; exact e)]
          exact ⟨hq.1, hq.2.1, rv⟩
        · rw [if_neg e, if_neg (by rw [← hq.1]; exact e)]
          exact hq
    · unfold zsOf
      rw [List.map_map, List.map_map]
      apply List.map_congr_left
      intro y _
      show putAt (kN k) r (kN y.1, y.2.1, y.2.2) = _
      unfold putAt
      by_cases e : y.1 = k
      · rw [if_pos (by rw [e])]
        dsimp only [Function.comp]
        rw [if_pos e]
      · rw [if_neg (fun z => e (kN_inj z))]
        dsimp only [Function.comp]
        rw [if_neg e]
  | false =>
    rw [if_neg (by decide), if_neg (by decide)]
    refine ⟨ys ++ [(k, b, r)], ?_, by unfold zsOf; rw [List.map_append]; rfl⟩
    induction q with
    | nil => exact .cons ⟨rfl, rfl, rv⟩ .nil
    | cons hq t ih => exact .cons hq ih
/-- an object of the library's form is one of ours -/
theorem dicR_of {h : Heap} {zs : List (KF × Ad × Value)} {P : Program} {w : World} (z : xs.length ≤ sizeLine) (ha : (a == sysModules) = false) (q : Paired PR xs zs) (d : h.DictOfH (nestedKind P w) a (zsOf zs)) : DicR h a xs := by
  obtain ⟨o, es, ep, e1, e2, e3, e4, _, e5⟩ := d
  refine ⟨z, ha, zs, q, o, es, ep, e1, e2, e3, ?_, ?_⟩
  · rw [e4]
    unfold zsOf
    rw [List.map_map]
    apply List.map_congr_left
    intro y _
    show (⟨(kN y.1).hash w, _, _⟩ : DictEntry) = _
    rw [hash_k]
  · rw [keys_eq q]
    unfold zsOf at e5
    rw [List.map_map] at e5
    have : ∀ l : List (KF × Ad × Value), (l.map ((·.1) ∘ fun y => (kN y.1, y.2.1, y.2.2))).Nodup → (l.map (·.1)).Nodup := by
      intro l
      induction l with
      | nil => intro _; exact List.nodup_nil
      | cons x l ih =>
        intro h
        rw [List.map_cons, List.nodup_cons] at h ⊢
        refine ⟨fun hm => h.1 ?_, ih h.2⟩
        obtain ⟨z, hz, ez⟩ := List.mem_map.mp hm
        exact List.mem_map.mpr ⟨z, hz, congrArg kN ez⟩
    exact this zs e5
theorem room8 (hu : A.units + 65 < cLine) : (nestedKind X.prog X.w).room A.in1 := by
  show A.in1.units + 8 < cLine
  show A.units + 1 + 8 < cLine
  omega
/-! ### by values -/
def NGet (K : PySem.W.Frag) (H : Hp) (a : Ad) (y : V) (r : Option V) : Prop := ∃ xs k b, H a = some (dicO a xs) ∧ (∀ x ∈ xs, KeyAt K H x.1 x.2.1) ∧ y = .ref b ∧ KeyAt K H k b ∧ r = valN xs k
def NPut (K : PySem.W.Frag) (H : Hp) (a : Ad) (y v : V) (H' : Hp) : Prop := ∃ xs k b, H a = some (dicO a xs) ∧ (∀ x ∈ xs, KeyAt K H x.1 x.2.1) ∧ y = .ref b ∧ KeyAt K H k b ∧ xs.length < sizeLine ∧ H' = upd H a (dicO a (putN xs k b v))
theorem n_getItem {Q : Value → Shared → Prop} (hu : A.units + 65 < cLine) (I : Inv X pins σ H s) (g : NGet X.K H a y (some v)) (ry : RelV y u) (h : ∀ w' s', Inv X pins σ H s' → RelV v w' → Q w' s') :
    wpAny (model X.prog X.w) A (getItem (.ref a) u) Q E s := by
  obtain ⟨xs, k, b, e, hk, rfl, hb, l⟩ := g
  cases (show u = Value.ref b from ry)
  obtain ⟨z, hd, ys, q, dd⟩ := dic_of I e hk
  obtain ⟨w', hw, rw'⟩ := RelO.some_of (v := v) (o := (atKey (zsOf ys) (kN k)).map (·.2)) (by rw [l]; exact valN_at q)
  obtain ⟨p, hp, rfl⟩ := Option.map_eq_some_iff.mp hw
  exact wpAny_getItem_heap (room8 hu) (key_is I hb) dd hp (h _ _ (I.tok _) rw')
theorem n_in {Q : Value → Shared → Prop} {o : Option V} (hu : A.units + 65 < cLine) (I : Inv X pins σ H s) (g : NGet X.K H a y o) (ry : RelV y u) (h : ∀ s', Inv X pins σ H s' → Q (.bool o.isSome) s') :
    wpAny (model X.prog X.w) A (compareOp .In u (.ref a)) Q E s := by
  obtain ⟨xs, k, b, e, hk, rfl, hb, l⟩ := g
  cases (show u = Value.ref b from ry)
  obtain ⟨z, hd, ys, q, dd⟩ := dic_of I e hk
  refine wpAny_in_heap (room8 hu) (key_is I hb) hd dd ?_
  have e2 := (valN_at (k := k) q).isSome_eq
  rw [Option.isSome_map] at e2
  rw [← e2, ← l]
  exact h _ (I.tok _)
theorem n_notIn {Q : Value → Shared → Prop} {o : Option V} (hu : A.units + 65 < cLine) (I : Inv X pins σ H s) (g : NGet X.K H a y o) (ry : RelV y u) (h : ∀ s', Inv X pins σ H s' → Q (.bool (!o.isSome)) s') :
    wpAny (model X.prog X.w) A (compareOp .NotIn u (.ref a)) Q E s := by
  obtain ⟨xs, k, b, e, hk, rfl, hb, l⟩ := g
  cases (show u = Value.ref b from ry)
  obtain ⟨z, hd, ys, q, dd⟩ := dic_of I e hk
  refine wpAny_notIn_heap (room8 hu) (key_is I hb) hd dd ?_
  have e2 := (valN_at (k := k) q).isSome_eq
  rw [Option.isSome_map] at e2
  rw [← e2, ← l]
  exact h _ (I.tok _)
theorem n_get2 {Q : Value → Shared → Prop} {o : Option V} {d : V} (hu : A.units + 65 < cLine) (I : Inv X pins σ H s) (g : NGet X.K H a y o) (ry : RelV y u) (rd : RelV d r) (h : ∀ w' s', Inv X pins σ H s' → RelV (o.getD d) w' → Q w' s') :
    wpAny (model X.prog X.w) A (call (.builtin "dict.get") [.ref a, u, r]) Q E s := by
  obtain ⟨xs, k, b, e, hk, rfl, hb, l⟩ := g
  cases (show u = Value.ref b from ry)
  obtain ⟨z, hd, ys, q, dd⟩ := dic_of I e hk
  refine call_meetsIn PySem.F.slot_dict_get dd.typeIs PySem.F.entry_dict_get (PySem.F.args_dict_get_3 _ _ _) (meetsH_dict_get_default (nestedKind X.prog X.w) a b hd r) ⟨room8 hu, kN k, zsOf ys, key_is I hb, dd, h _ _ (I.tok _) ?_⟩
  rw [l]
  exact (valN_at q).getD rd
theorem n_setItem {H' : Hp} {Q : Unit → Shared → Prop} (hu : A.units + 65 < cLine) (I : Inv X pins σ H s) (g : NPut X.K H a y v H') (ry : RelV y u) (rv : RelV v r) (h : ∀ s', Inv X pins σ H' s' → Q () s') :
    wpAny (model X.prog X.w) A (setItem (.ref a) u r) Q E s := by
  obtain ⟨xs, k, b, e, hk, rfl, hb, l, rfl⟩ := g
  cases (show u = Value.ref b from ry)
  obtain ⟨z, hd, ys, q, dd⟩ := dic_of I e hk
  have hz : (zsOf ys).length ≤ sizeLine := by unfold zsOf; rw [List.length_map, ← pairs_len q]; exact z
  have hl : (putN xs k b v).length ≤ sizeLine := by have := valN_len (xs := xs) (k := k) (b := b) (v := v); omega
  refine wpAny_setItem_heap (hsz := hz) (room8 hu) (key_is I hb) dd fun h' dd' hs => h _ ?_
  obtain ⟨zs, q2, e2⟩ := stored_of (k := k) (b := b) q rv
  rw [e2] at dd'
  have he : ∃ q, h'.get? a = some q := let ⟨q, _, _, hq, _⟩ := dd'; ⟨q, hq⟩
  exact d_write I (by rw [e]; exact True.intro) hs he (dicO_new (dicR_of hl hd q2 dd'))
end
section
variable {X : Cx}
def rInN (K : PySem.W.Frag) (neg : Bool) : R2 := fun x y H Q => ∃ a o, y = .ref a ∧ NGet K H a x o ∧ Q (.bl (neg != o.isSome)) H
theorem op_inN (hu : X.A.units + 65 < cLine) : OpR X (compareOp .In) (rInN X.K false) := by
  intro pins s σ H x y v u Q I rx ry h
  obtain ⟨a, o, rfl, g, q⟩ := h
  cases (show u = Value.ref a from ry)
  refine n_in hu I g rx fun s' I' => ⟨.bl o.isSome, H, I', rfl, ?_⟩
  rw [show (false != o.isSome) = o.isSome by cases o.isSome <;> rfl] at q
  exact q
theorem op_notInN (hu : X.A.units + 65 < cLine) : OpR X (compareOp .NotIn) (rInN X.K true) := by
  intro pins s σ H x y v u Q I rx ry h
  obtain ⟨a, o, rfl, g, q⟩ := h
  cases (show u = Value.ref a from ry)
  refine n_notIn hu I g rx fun s' I' => ⟨.bl (!o.isSome), H, I', rfl, ?_⟩
  rw [show (true != o.isSome) = !o.isSome by cases o.isSome <;> rfl] at q
  exact q
def rItN (K : PySem.W.Frag) : R2 := fun x y H Q => ∃ a v, x = .ref a ∧ NGet K H a y (some v) ∧ Q v H
theorem dict_is {pins : List (Addr × Obj)} {σ : L2.St} {H : Hp} {s : Shared} {a : Ad} {y : V} {o : Option V} (I : Inv X pins σ H s) (g : NGet X.K H a y o) : s.TypeIs (.ref a) "dict" := by
  obtain ⟨xs, k, b, e, hk, _⟩ := g
  obtain ⟨_, _, ys, _, dd⟩ := dic_of I e hk
  exact dd.typeIs
theorem ix_N (hu : X.A.units + 65 < cLine) : IxR X (rItN X.K) := by
  intro value slice pins s σ H x y v u Q I rx ry h hs
  obtain ⟨a, z, rfl, g, q⟩ := h
  cases (show v = Value.ref a from rx)
  exact tail_any (dict_is I g) PySem.F.slot_dict_getitem.lookup (n_getItem hu I g ry fun w' s' I' rw' => ⟨z, H, I', rw', q⟩) hs
def rSetN (K : PySem.W.Frag) : V → V → V → Hp → (Hp → Prop) → Prop := fun o i v H Q => ∃ a H', o = .ref a ∧ NPut K H a i v H' ∧ Q H'
theorem set_N (hu : X.A.units + 65 < cLine) : PSet X (rSetN X.K) := by
  intro pins s σ H o i v ov iv u Q I ro ri rv h
  obtain ⟨a, H', rfl, g, q⟩ := h
  cases (show ov = Value.ref a from ro)
  exact n_setItem hu I g ri rv fun s' I' => ⟨H', I', q⟩
theorem PSet.or {r r' : V → V → V → Hp → (Hp → Prop) → Prop} (h : PSet X r) (h' : PSet X r') : PSet X (fun o i v H Q => r o i v H Q ∨ r' o i v H Q) := by
  intro pins s σ H o i v ov iv u Q I ro ri rv q
  rcases q with q | q
  · exact h pins s σ H o i v ov iv u Q I ro ri rv q
  · exact h' pins s σ H o i v ov iv u Q I ro ri rv q
end
end Tw
set_option Elab.async false
set_option linter.all false
set_option autoImplicit false
set_option maxRecDepth 100000
/-! TwSim: how the trees lie in the abstract heap; readings by a function. -/
namespace Tw
open PySem PySem.Spec PyProof.Rows L2

/-- where our objects lie (by their numbers), and what else is kept apart (a list that a comprehension is filling) -/
structure Mp where
  ix : List Ad
  av : List Ad
/-- no object of ours -/
def Mp.out (m : Mp) (a : Ad) : Prop := a ∉ m.ix ∧ a ∉ m.av
/-- a list, a tuple that nobody writes -/
def FzS (K : PySem.W.Frag) (m : Mp) (H : Hp) (a : Ad) (ys : List V) : Prop := (Rd H a (.lst ys) ∧ m.out a) ∨ SqL K (fun _ => none) a ys
def FzL (m : Mp) (H : Hp) (a : Ad) (ys : List V) : Prop := H a = some (.lst ys) ∧ m.out a
def FzT (K : PySem.W.Frag) (m : Mp) (H : Hp) (a : Ad) (ys : List V) : Prop := (Rd H a (.tup ys) ∧ m.out a) ∨ SqT K (fun _ => none) a ys
/-- a dict's pairs: int keys, or tuples with where they lie -/
inductive DK | i (n : Int) | t (k : KF) (b : Ad)
def dcO (a : Ad) (t : Bool) (xs : List (DK × V)) (o : HO) : Prop := (t = false ∧ ∃ ps : List (Int × V), xs = ps.map (fun p => (DK.i p.1, p.2)) ∧ o = .dK (ps.map fun p => ((Sum.inl p.1 : L2.Key), p.2))) ∨ (t = true ∧ ∃ ps : Prs, xs = ps.map (fun p => (DK.t p.1 p.2.1, p.2.2)) ∧ o = dicO a ps)
section
variable (K : PySem.W.Frag) (m : Mp) (H : Hp)
mutual
inductive R : VV → V → Prop
  | non : R .non .non
  | bl (b : Bool) : R (.bl b) (.bl b)
  | int (i : Int) : R (.int i) (.int i)
  | str (x : Str) : R (.str x) (.str x)
  | tup {a : Ad} {xs : List VV} {ys : List V} : FzT K m H a ys → Rs xs ys → R (.tup xs) (.ref a)
  | lst {a : Ad} {xs : List VV} {ys : List V} : FzL m H a ys → Rs xs ys → R (.lst xs) (.ref a)
  | scr {a : Ad} {xs : List VV} {ys : List V} : FzS K m H a ys → Rs xs ys → R (.scr xs) (.ref a)
  | ref {k : Nat} {a : Ad} : m.ix[k]? = some a → R (.ref k) (.ref a)
  | dct {a : Ad} {t : Bool} {kvs : List (VV × VV)} {xs : List (DK × V)} {o : HO} : H a = some o → m.out a → dcO a t xs o → Rp kvs xs → R (.dct t kvs) (.ref a)
  | exc {a d : Ad} {c : String} {x : VV} {v : V} : XcG K c → H a = some (XO a (xA K c) d) → m.out a → H d = some (.xd [(xF c, v)]) → m.out d → R x v → R (.exc c x) (.ref a)
inductive Rs : List VV → List V → Prop
  | nil : Rs [] []
  | cons {x : VV} {v : V} {xs : List VV} {vs : List V} : R x v → Rs xs vs → Rs (x :: xs) (v :: vs)
inductive Rp : List (VV × VV) → List (DK × V) → Prop
  | nil : Rp [] []
  | int {i : Int} {x : VV} {v : V} {kvs : List (VV × VV)} {xs : List (DK × V)} : R x v → Rp kvs xs → Rp ((.int i, x) :: kvs) ((.i i, v) :: xs)
  | tup {ks : List VV} {kf : KF} {b : Ad} {x : VV} {v : V} {kvs : List (VV × VV)} {xs : List (DK × V)} : mapO kF1 ks = some kf → FzT K m H b (kf.map k1V) → R x v → Rp kvs xs → Rp ((.tup ks, x) :: kvs) ((.t kf b, v) :: xs)
end
def OR : Ob → Ad → Prop
  | .lst xs, a => ∃ ys, H a = some (.lst ys) ∧ Rs K m H xs ys
  | .dct t kvs, a => ∃ xs o, H a = some o ∧ dcO a t xs o ∧ Rp K m H kvs xs
  | _, _ => False
structure SimH (S : Hs) : Prop where
  len : m.ix.length = S.length
  nd : m.ix.Nodup
  obj : ∀ (k : Nat) (o : Ob) (a : Ad), S[k]? = some o → m.ix[k]? = some a → OR K m H o a
  apart : ∀ a ∈ m.av, a ∉ m.ix ∧ H a ≠ none
structure SimE (σv : Sv) (σ : L2.St) : Prop where
  len : σ.length = σv.length
  get : ∀ (i : Nat) (x : VV), σv[i]? = some (some x) → ∃ v, σ[i]? = some (some v) ∧ R K m H x v
end
section
variable {K : PySem.W.Frag} {m m' m1 m2 : Mp} {H H' H1 H2 : Hp} {S S' : Hs} {a : Ad} {x : VV} {v : V} {xs : List VV} {vs : List V}
theorem none_rdL {ys : List V} (h : SqL K (fun _ => none) a ys) (H : Hp) : SqL K H a ys := by
  rcases h with (h | ⟨o, h⟩) | h
  · cases h
  · cases h
  · exact .inr h
theorem none_rdT {ys : List V} (h : SqT K (fun _ => none) a ys) (H : Hp) : SqT K H a ys := by
  rcases h with (h | ⟨o, h⟩) | h
  · cases h
  · cases h
  · exact .inr h
theorem FzS.sq {ys : List V} (h : FzS K m H a ys) : SqL K H a ys := by
  rcases h with ⟨h, _⟩ | h
  · exact .inl h
  · exact none_rdL h H
theorem FzL.sq {ys : List V} (h : FzL m H a ys) : SqL K H a ys := SqL.of h.1
theorem FzT.sq {ys : List V} (h : FzT K m H a ys) : SqT K H a ys := by
  rcases h with ⟨h, _⟩ | h
  · exact .inl h
  · exact none_rdT h H

/-- what stays: all that no object of ours is; new objects of ours were free -/
structure Ext (m : Mp) (H : Hp) (m' : Mp) (H' : Hp) : Prop where
  keep : ∀ (a : Ad) (o : HO), H a = some o → a ∉ m.ix → H' a = some o
  live : ∀ a : Ad, H a ≠ none → H' a ≠ none
  av : m'.av = m.av
  grow : ∃ t, m'.ix = m.ix ++ t ∧ ∀ a ∈ t, H a = none
theorem Ext.refl : Ext m H m H := ⟨fun _ _ h _ => h, fun _ h => h, rfl, [], by simp, by simp⟩
theorem Ext.nin (e : Ext m H m' H') (h : H a ≠ none) (hm : a ∉ m.ix) : a ∉ m'.ix := fun q => by
  obtain ⟨t, ht, hn⟩ := e.grow
  rw [ht] at q
  rcases List.mem_append.mp q with q | q
  · exact hm q
  · exact h (hn a q)
theorem Ext.out (e : Ext m H m' H') (h : H a ≠ none) (hm : m.out a) : m'.out a := ⟨e.nin h hm.1, by rw [e.av]; exact hm.2⟩
theorem Ext.trans (e : Ext m H m1 H1) (f : Ext m1 H1 m2 H2) : Ext m H m2 H2 := by
  obtain ⟨t, et, ht⟩ := e.grow
  obtain ⟨u, eu, hu⟩ := f.grow
  refine ⟨fun a o h hm => f.keep a o (e.keep a o h hm) (e.nin (by rw [h]; simp) hm), fun a h => f.live a (e.live a h), f.av.trans e.av, t ++ u, by rw [eu, et, List.append_assoc], fun a ha => ?_⟩
  rcases List.mem_append.mp ha with q | q
  · exact ht a q
  · cases hh : H a with
    | none => rfl
    | some o => exact absurd (hu a q) (e.live a (by rw [hh]; simp))
theorem rd_ne {u : HO} (h : Rd H a u) : H a ≠ none := by
  rcases h with h | ⟨o, h⟩ <;> rw [h] <;> simp
theorem Ext.rd {u : HO} (e : Ext m H m' H') (h : Rd H a u) (hm : a ∉ m.ix) : Rd H' a u := by
  rcases h with h | ⟨o, h⟩
  · exact .inl (e.keep _ _ h hm)
  · exact .inr ⟨o, e.keep _ _ h hm⟩
theorem Ext.rdL {ys : List V} (e : Ext m H m' H') (h : FzL m H a ys) : FzL m' H' a ys := ⟨e.keep _ _ h.1 h.2.1, e.out (by rw [h.1]; simp) h.2⟩
theorem Ext.rdS {ys : List V} (e : Ext m H m' H') (h : FzS K m H a ys) : FzS K m' H' a ys := by
  rcases h with ⟨h, hm⟩ | h
  · exact .inl ⟨e.rd h hm.1, e.out (rd_ne h) hm⟩
  · exact .inr h
theorem Ext.rdT {ys : List V} (e : Ext m H m' H') (h : FzT K m H a ys) : FzT K m' H' a ys := by
  rcases h with ⟨h, hm⟩ | h
  · exact .inl ⟨e.rd h hm.1, e.out (rd_ne h) hm⟩
  · exact .inr h
mutual
theorem R.ext (e : Ext m H m' H') : ∀ {x : VV} {v : V}, R K m H x v → R K m' H' x v
  | _, _, .non => .non
  | _, _, .bl b => .bl b
  | _, _, .int i => .int i
  | _, _, .str z => .str z
  | _, _, .tup f r => .tup (e.rdT f) (Rs.ext e r)
  | _, _, .lst f r => .lst (e.rdL f) (Rs.ext e r)
  | _, _, .scr f r => .scr (e.rdS f) (Rs.ext e r)
  | _, _, .ref h => by
    obtain ⟨t, et, _⟩ := e.grow
    exact .ref (by rw [et, List.getElem?_append_left (List.getElem?_eq_some_iff.mp h).1]; exact h)
  | _, _, .dct h hm d r => .dct (e.keep _ _ h hm.1) (e.out (by rw [h]; simp) hm) d (Rp.ext e r)
  | _, _, .exc g h hm h2 hm2 r => .exc g (e.keep _ _ h hm.1) (e.out (by rw [h]; simp) hm) (e.keep _ _ h2 hm2.1) (e.out (by rw [h2]; simp) hm2) (R.ext e r)
theorem Rs.ext (e : Ext m H m' H') : ∀ {xs : List VV} {vs : List V}, Rs K m H xs vs → Rs K m' H' xs vs
  | _, _, .nil => .nil
  | _, _, .cons r t => .cons (R.ext e r) (Rs.ext e t)
theorem Rp.ext (e : Ext m H m' H') : ∀ {xs : List (VV × VV)} {vs : List (DK × V)}, Rp K m H xs vs → Rp K m' H' xs vs
  | _, _, .nil => .nil
  | _, _, .int r t => .int (R.ext e r) (Rp.ext e t)
  | _, _, .tup k f r t => .tup k (e.rdT f) (R.ext e r) (Rp.ext e t)
end
/-- another object, not ours, that nothing of ours names, is kept apart from now on -/
def Mp.apart (m : Mp) (d : Ad) : Mp := ⟨m.ix, d :: m.av⟩
section
variable {d : Ad} {o : HO}
theorem out_ne (hm : (m.apart d).out a) : a ≠ d := fun e => hm.2 (by rw [e]; exact List.mem_cons_self)
theorem fzT_put {a : Ad} {ys : List V} (f : FzT K (m.apart d) H a ys) : FzT K (m.apart d) (upd H d o) a ys := by
  rcases f with ⟨h, hm⟩ | h
  · refine .inl ⟨?_, hm⟩
    rcases h with h | ⟨u, h⟩
    · exact .inl (by rw [upd_ne (out_ne hm)]; exact h)
    · exact .inr ⟨u, by rw [upd_ne (out_ne hm)]; exact h⟩
  · exact .inr h
mutual
/-- what is kept apart may be written -/
theorem R.put : ∀ {x : VV} {v : V}, R K (m.apart d) H x v → R K (m.apart d) (upd H d o) x v
  | _, _, .non => .non
  | _, _, .bl b => .bl b
  | _, _, .int i => .int i
  | _, _, .str z => .str z
  | _, _, .tup f r => .tup (by
      rcases f with ⟨h, hm⟩ | h
      · refine .inl ⟨?_, hm⟩
        rcases h with h | ⟨u, h⟩
        · exact .inl (by rw [upd_ne (out_ne hm)]; exact h)
        · exact .inr ⟨u, by rw [upd_ne (out_ne hm)]; exact h⟩
      · exact .inr h) (Rs.put r)
  | _, _, .lst f r => .lst ⟨by rw [upd_ne (out_ne f.2)]; exact f.1, f.2⟩ (Rs.put r)
  | _, _, .scr f r => .scr (by
      rcases f with ⟨h, hm⟩ | h
      · refine .inl ⟨?_, hm⟩
        rcases h with h | ⟨u, h⟩
        · exact .inl (by rw [upd_ne (out_ne hm)]; exact h)
        · exact .inr ⟨u, by rw [upd_ne (out_ne hm)]; exact h⟩
      · exact .inr h) (Rs.put r)
  | _, _, .ref h => .ref h
  | _, _, .dct h hm c r => .dct (by rw [upd_ne (out_ne hm)]; exact h) hm c (Rp.put r)
  | _, _, .exc g h hm h2 hm2 r => .exc g (by rw [upd_ne (out_ne hm)]; exact h) hm (by rw [upd_ne (out_ne hm2)]; exact h2) hm2 (R.put r)
theorem Rs.put : ∀ {xs : List VV} {vs : List V}, Rs K (m.apart d) H xs vs → Rs K (m.apart d) (upd H d o) xs vs
  | _, _, .nil => .nil
  | _, _, .cons r t => .cons (R.put r) (Rs.put t)
theorem Rp.put : ∀ {xs : List (VV × VV)} {vs : List (DK × V)}, Rp K (m.apart d) H xs vs → Rp K (m.apart d) (upd H d o) xs vs
  | _, _, .nil => .nil
  | _, _, .int r t => .int (R.put r) (Rp.put t)
  | _, _, .tup k f r t => .tup k (fzT_put f) (R.put r) (Rp.put t)
end
mutual
/-- apart: d was free -/
theorem R.aside (hd : H d = none) : ∀ {x : VV} {v : V}, R K m H x v → R K (m.apart d) (upd H d o) x v
  | _, _, .non => .non
  | _, _, .bl b => .bl b
  | _, _, .int i => .int i
  | _, _, .str z => .str z
  | _, _, .tup f r => .tup (by
      rcases f with ⟨h, hm⟩ | h
      · refine .inl ⟨?_, aside_out hd (rd_ne h) hm⟩
        exact aside_rd hd h
      · exact .inr h) (Rs.aside hd r)
  | _, _, .lst f r => .lst ⟨by rw [upd_ne (ne_of_none f.1 hd)]; exact f.1, aside_out hd (by rw [f.1]; simp) f.2⟩ (Rs.aside hd r)
  | _, _, .scr f r => .scr (by
      rcases f with ⟨h, hm⟩ | h
      · exact .inl ⟨aside_rd hd h, aside_out hd (rd_ne h) hm⟩
      · exact .inr h) (Rs.aside hd r)
  | _, _, .ref h => .ref h
  | _, _, .dct h hm c r => .dct (by rw [upd_ne (ne_of_none h hd)]; exact h) (aside_out hd (by rw [h]; simp) hm) c (Rp.aside hd r)
  | _, _, .exc g h hm h2 hm2 r => .exc g (by rw [upd_ne (ne_of_none h hd)]; exact h) (aside_out hd (by rw [h]; simp) hm) (by rw [upd_ne (ne_of_none h2 hd)]; exact h2) (aside_out hd (by rw [h2]; simp) hm2) (R.aside hd r)
theorem Rs.aside (hd : H d = none) : ∀ {xs : List VV} {vs : List V}, Rs K m H xs vs → Rs K (m.apart d) (upd H d o) xs vs
  | _, _, .nil => .nil
  | _, _, .cons r t => .cons (R.aside hd r) (Rs.aside hd t)
theorem Rp.aside (hd : H d = none) : ∀ {xs : List (VV × VV)} {vs : List (DK × V)}, Rp K m H xs vs → Rp K (m.apart d) (upd H d o) xs vs
  | _, _, .nil => .nil
  | _, _, .int r t => .int (R.aside hd r) (Rp.aside hd t)
  | _, _, .tup k f r t => .tup k (by
      rcases f with ⟨h, hm⟩ | h
      · exact .inl ⟨aside_rd hd h, aside_out hd (rd_ne h) hm⟩
      · exact .inr h) (R.aside hd r) (Rp.aside hd t)
theorem aside_out (hd : H d = none) {a : Ad} (h : H a ≠ none) (hm : m.out a) : (m.apart d).out a := ⟨hm.1, fun q => by
  rcases List.mem_cons.mp q with q | q
  · rw [q] at h; exact h hd
  · exact hm.2 q⟩
theorem aside_rd (hd : H d = none) {a : Ad} {u : HO} (h : Rd H a u) : Rd (upd H d o) a u := by
  rcases h with h | ⟨w, h⟩
  · exact .inl (by rw [upd_ne (ne_of_none h hd)]; exact h)
  · exact .inr ⟨w, by rw [upd_ne (ne_of_none h hd)]; exact h⟩
end
mutual
theorem R.back : ∀ {x : VV} {v : V}, R K (m.apart d) H x v → R K m H x v
  | _, _, .non => .non
  | _, _, .bl b => .bl b
  | _, _, .int i => .int i
  | _, _, .str z => .str z
  | _, _, .tup f r => .tup (f.imp (fun h => ⟨h.1, back_out h.2⟩) id) (Rs.back r)
  | _, _, .lst f r => .lst ⟨f.1, back_out f.2⟩ (Rs.back r)
  | _, _, .scr f r => .scr (f.imp (fun h => ⟨h.1, back_out h.2⟩) id) (Rs.back r)
  | _, _, .ref h => .ref h
  | _, _, .dct h hm c r => .dct h (back_out hm) c (Rp.back r)
  | _, _, .exc g h hm h2 hm2 r => .exc g h (back_out hm) h2 (back_out hm2) (R.back r)
theorem Rs.back : ∀ {xs : List VV} {vs : List V}, Rs K (m.apart d) H xs vs → Rs K m H xs vs
  | _, _, .nil => .nil
  | _, _, .cons r t => .cons (R.back r) (Rs.back t)
theorem Rp.back : ∀ {xs : List (VV × VV)} {vs : List (DK × V)}, Rp K (m.apart d) H xs vs → Rp K m H xs vs
  | _, _, .nil => .nil
  | _, _, .int r t => .int (R.back r) (Rp.back t)
  | _, _, .tup k f r t => .tup k (f.imp (fun h => ⟨h.1, back_out h.2⟩) id) (R.back r) (Rp.back t)
theorem back_out {a : Ad} (h : (m.apart d).out a) : m.out a := ⟨h.1, fun q => h.2 (List.mem_cons_of_mem _ q)⟩
end
end
theorem SimE.ext {σv : Sv} {σ : L2.St} (e : Ext m H m' H') (h : SimE K m H σv σ) : SimE K m' H' σv σ :=
  ⟨h.len, fun i x q => let ⟨v, h1, h2⟩ := h.get i x q; ⟨v, h1, h2.ext e⟩⟩
theorem Rs.length : ∀ {xs : List VV} {vs : List V}, Rs K m H xs vs → xs.length = vs.length
  | _, _, .nil => rfl
  | _, _, .cons _ t => by simp [Rs.length t]
theorem Rs.get : ∀ {xs : List VV} {vs : List V} {i : Nat} {x : VV}, Rs K m H xs vs → xs[i]? = some x → ∃ v, vs[i]? = some v ∧ R K m H x v
  | _, _, _, _, .nil, h => by simp at h
  | _, _, 0, _, .cons r _, h => by
    simp at h
    subst h
    exact ⟨_, rfl, r⟩
  | _, _, i + 1, _, .cons _ t, h => by
    obtain ⟨v, h1, h2⟩ := Rs.get (i := i) t (by simpa using h)
    exact ⟨v, by simpa using h1, h2⟩
theorem Rs.append : ∀ {xs ys : List VV} {vs ws : List V}, Rs K m H xs vs → Rs K m H ys ws → Rs K m H (xs ++ ys) (vs ++ ws)
  | _, _, _, _, .nil, s => s
  | _, _, _, _, .cons r t, s => .cons r (Rs.append t s)
theorem Rs.take : ∀ {xs : List VV} {vs : List V} (n : Nat), Rs K m H xs vs → Rs K m H (xs.take n) (vs.take n)
  | _, _, 0, _ => .nil
  | _, _, _ + 1, .nil => .nil
  | _, _, n + 1, .cons r t => .cons r (Rs.take n t)
theorem Rs.drop : ∀ {xs : List VV} {vs : List V} (n : Nat), Rs K m H xs vs → Rs K m H (xs.drop n) (vs.drop n)
  | _, _, 0, r => r
  | _, _, _ + 1, .nil => .nil
  | _, _, n + 1, .cons r t => Rs.drop n t
theorem Rs.set (r : R K m H x v) : ∀ {xs : List VV} {vs : List V} (i : Nat), Rs K m H xs vs → Rs K m H (xs.set i x) (vs.set i v)
  | _, _, _, .nil => .nil
  | _, _, 0, .cons _ t => .cons r t
  | _, _, i + 1, .cons q t => .cons q (Rs.set r i t)
theorem Rs.dropLast (h : Rs K m H xs vs) : Rs K m H xs.dropLast vs.dropLast := by
  rw [List.dropLast_eq_take, List.dropLast_eq_take, h.length]
  exact h.take _
theorem Rs.rep (h : Rs K m H xs vs) : ∀ k : Nat, Rs K m H (List.replicate k xs).flatten (List.replicate k vs).flatten
  | 0 => .nil
  | k + 1 => by
    rw [List.replicate_succ, List.replicate_succ, List.flatten_cons, List.flatten_cons]
    exact h.append (Rs.rep h k)
theorem Rs.ints : ∀ {ns : List Int} {xs : List VV} {vs : List V}, mapO intOf xs = some ns → Rs K m H xs vs → vs = ns.map V.int
  | ns, [], _, h, .nil => by cases h; rfl
  | ns, x :: xs, _, h, .cons r t => by
    unfold mapO at h
    split at h
    · rename_i y ys e1 e2
      cases h
      cases r <;> simp [intOf] at e1
      subst e1
      rw [Rs.ints e2 t]; rfl
    · cases h
theorem Rs.bls : ∀ {ns : List Bool} {xs : List VV} {vs : List V}, mapO blOf xs = some ns → Rs K m H xs vs → vs = ns.map V.bl
  | ns, [], _, h, .nil => by cases h; rfl
  | ns, x :: xs, _, h, .cons r t => by
    unfold mapO at h
    split at h
    · rename_i y ys e1 e2
      cases h
      cases r <;> simp [blOf] at e1
      subst e1
      rw [Rs.bls e2 t]; rfl
    · cases h
theorem Rs.of_ints : ∀ {ns : List Int}, Rs K m H (ns.map VV.int) (ns.map V.int)
  | [] => .nil
  | n :: ns => .cons (.int n) Rs.of_ints

theorem SimH.at (h : SimH K m H S) {k : Nat} (hk : m.ix[k]? = some a) : ∃ o, S[k]? = some o ∧ OR K m H o a := by
  obtain ⟨hlt, _⟩ := List.getElem?_eq_some_iff.mp hk
  have hs : k < S.length := by rw [← h.len]; exact hlt
  exact ⟨S[k], List.getElem?_eq_getElem hs, h.obj k _ a (List.getElem?_eq_getElem hs) hk⟩
theorem kid_some {k : Nat} (h : kid S k = some xs) : S[k]? = some (.lst xs) := by
  unfold kid at h
  split at h
  · cases h; assumption
  · cases h
theorem SimH.list (h : SimH K m H S) {k : Nat} (hk : m.ix[k]? = some a) (e : kid S k = some xs) : ∃ ys, H a = some (.lst ys) ∧ Rs K m H xs ys :=
  h.obj k _ a (kid_some e) hk
/-- the items of a list or a tuple, read -/
theorem seq_rd (h : SimH K m H S) (r : R K m H x v) (e : seqOf S x = some xs) : ∃ a ys, v = .ref a ∧ (SqL K H a ys ∨ SqT K H a ys) ∧ Rs K m H xs ys := by
  cases r <;> simp [seqOf] at e
  · subst e
    rename_i a ys f t
    exact ⟨_, _, rfl, .inr (FzT.sq (by assumption)), by assumption⟩
  · subst e
    rename_i a ys f t
    exact ⟨_, _, rfl, .inl (FzL.sq (by assumption)), by assumption⟩
  · rename_i k a hk
    obtain ⟨ys, h1, h2⟩ := h.list hk e
    exact ⟨a, ys, rfl, .inl (SqL.of h1), h2⟩
theorem SimH.mem_some (h : SimH K m H S) (ha : a ∈ m.ix) : H a ≠ none := by
  obtain ⟨k, hk⟩ := List.mem_iff_getElem?.mp ha
  obtain ⟨o, _, r⟩ := h.at hk
  cases o with
  | lst xs => obtain ⟨ys, e, _⟩ := r; rw [e]; simp
  | dct _ _ => obtain ⟨_, _, e, _⟩ := r; rw [e]; simp
  | obj _ _ => exact r.elim
theorem not_mem_of_none (h : SimH K m H S) (hp : H a = none) : a ∉ m.ix := fun q => h.mem_some q hp
theorem out_of_none (h : SimH K m H S) (hp : H a = none) : m.out a := ⟨not_mem_of_none h hp, fun q => (h.apart a q).2 hp⟩
/-- one object of ours more -/
def Mp.push (m : Mp) (a : Ad) : Mp := ⟨m.ix ++ [a], m.av⟩
theorem Ext.new {o : HO} (hp : H a = none) : Ext m H m (upd H a o) := by
  refine ⟨fun b u h _ => ?_, fun b h => ?_, rfl, [], by simp, by simp⟩
  · rw [upd_ne (ne_of_none h hp)]; exact h
  · by_cases hb : b = a
    · subst hb; rw [upd_same]; simp
    · rw [upd_ne hb]; exact h
theorem Ext.newM {o : HO} (hp : H a = none) : Ext m H (m.push a) (upd H a o) := by
  have e := Ext.new (m := m) (o := o) hp
  exact ⟨e.keep, e.live, rfl, [a], rfl, fun b hb => by rw [List.mem_singleton.mp hb]; exact hp⟩
theorem OR.ext (e : Ext m H m' H') {o : Ob} (ho : OR K m H o a) (hk : ∀ u, H a = some u → H' a = some u) : OR K m' H' o a := by
  cases o with
  | lst xs => obtain ⟨ys, h1, h2⟩ := ho; exact ⟨ys, hk _ h1, h2.ext e⟩
  | dct _ _ => obtain ⟨ys, o, h1, h3, h2⟩ := ho; exact ⟨ys, o, hk _ h1, h3, h2.ext e⟩
  | obj _ _ => exact ho.elim
/-- something new that is none of our objects -/
theorem SimH.new {o : HO} (h : SimH K m H S) (hp : H a = none) : SimH K m (upd H a o) S :=
  ⟨h.len, h.nd, fun k ob b h1 h2 => (h.obj k ob b h1 h2).ext (Ext.new hp) fun ys q => by rw [upd_ne (ne_of_none q hp)]; exact q,
    fun b hb => ⟨(h.apart b hb).1, (Ext.new (m := m) hp).live b (h.apart b hb).2⟩⟩
theorem SimH.newO {o : HO} {ob : Ob} (h : SimH K m H S) (hp : H a = none) (r : OR K (m.push a) (upd H a o) ob a) : SimH K (m.push a) (upd H a o) (S ++ [ob]) := by
  have hm : a ∉ m.ix := not_mem_of_none h hp
  refine ⟨by simp [Mp.push, h.len], ?_, fun k ob b h1 h2 => ?_, fun b hb => ⟨fun q => ?_, (Ext.new (m := m) hp).live b (h.apart b hb).2⟩⟩
  · show (m.ix ++ [a]).Nodup
    rw [List.nodup_append]
    exact ⟨h.nd, by simp, fun x hx y hy z => hm (by rw [List.mem_singleton.mp hy] at z; exact z ▸ hx)⟩
  · have h2 : (m.ix ++ [a])[k]? = some b := h2
    by_cases hk : k < m.ix.length
    · rw [List.getElem?_append_left hk] at h2
      rw [List.getElem?_append_left (by rw [← h.len]; exact hk)] at h1
      exact (h.obj k ob b h1 h2).ext (Ext.newM hp) fun ys q => by rw [upd_ne (ne_of_none q hp)]; exact q
    · rw [List.getElem?_append_right (Nat.le_of_not_lt hk)] at h2
      rw [List.getElem?_append_right (by rw [← h.len]; exact Nat.le_of_not_lt hk)] at h1
      rw [h.len] at h2
      cases e : k - S.length with
      | zero =>
        rw [e] at h1 h2
        simp at h1 h2
        subst h1 h2
        exact r
      | succ n => rw [e] at h1; simp at h1
  · rcases List.mem_append.mp q with q | q
    · exact (h.apart b hb).1 q
    · rw [List.mem_singleton.mp q] at hb
      exact (h.apart a hb).2 hp
theorem SimH.newM {ys : List V} (h : SimH K m H S) (hp : H a = none) (r : Rs K m H xs ys) : SimH K (m.push a) (upd H a (.lst ys)) (S ++ [.lst xs]) := h.newO hp ⟨ys, upd_same, r.ext (Ext.newM hp)⟩
/-- one of our lists is written -/
theorem Ext.write {o : HO} (ha : a ∈ m.ix) : Ext m H m (upd H a o) := by
  refine ⟨fun b u h hb => ?_, fun b h => ?_, rfl, [], by simp, by simp⟩
  · rw [upd_ne (fun q => hb (by rw [q]; exact ha))]; exact h
  · by_cases hb : b = a
    · subst hb; rw [upd_same]; simp
    · rw [upd_ne hb]; exact h
theorem SimH.writeO {o : HO} {ob : Ob} (h : SimH K m H S) {k : Nat} (hk : m.ix[k]? = some a) (r : OR K m (upd H a o) ob a) : SimH K m (upd H a o) (S.set k ob) := by
  have ha : a ∈ m.ix := List.mem_of_getElem? hk
  refine ⟨by simp [h.len], h.nd, fun j ob b h1 h2 => ?_, fun b hb => ⟨(h.apart b hb).1, (Ext.write (m := m) ha).live b (h.apart b hb).2⟩⟩
  by_cases hj : j = k
  · subst hj
    rw [hk] at h2
    cases h2
    obtain ⟨hlt, _⟩ := List.getElem?_eq_some_iff.mp hk
    rw [List.getElem?_set_self (by rw [← h.len]; exact hlt)] at h1
    cases h1
    exact r
  · rw [List.getElem?_set_ne (Ne.symm hj)] at h1
    have hne : b ≠ a := fun q => by
      subst q
      obtain ⟨l1, e1⟩ := List.getElem?_eq_some_iff.mp h2
      obtain ⟨l2, e2⟩ := List.getElem?_eq_some_iff.mp hk
      exact hj ((List.getElem_inj h.nd).mp (e1.trans e2.symm))
    exact (h.obj j ob b h1 h2).ext (Ext.write ha) fun ys q => by rw [upd_ne hne]; exact q
theorem SimH.write {ys : List V} (h : SimH K m H S) {k : Nat} (hk : m.ix[k]? = some a) (r : Rs K m H xs ys) : SimH K m (upd H a (.lst ys)) (S.set k (.lst xs)) :=
  h.writeO hk ⟨ys, upd_same, r.ext (Ext.write (List.mem_of_getElem? hk))⟩
theorem R.newL {ys : List V} (h : SimH K m H S) (hp : H a = none) (r : Rs K m H xs ys) : R K m (upd H a (.lst ys)) (.lst xs) (.ref a) :=
  .lst ⟨upd_same, out_of_none h hp⟩ (r.ext (Ext.new hp))
theorem R.newT {ys : List V} (h : SimH K m H S) (hp : H a = none) (r : Rs K m H xs ys) : R K m (upd H a (.tup ys)) (.tup xs) (.ref a) :=
  .tup (.inl ⟨.inl upd_same, out_of_none h hp⟩) (r.ext (Ext.new hp))
/-- a new list is kept apart while it is filled -/
theorem SimH.aside {o : HO} (h : SimH K m H S) (hp : H a = none) : SimH K (m.apart a) (upd H a o) S := by
  refine ⟨h.len, h.nd, fun k ob b h1 h2 => ?_, fun b hb => ?_⟩
  · have q := h.obj k ob b h1 h2
    cases ob with
    | lst xs =>
      obtain ⟨ys, h3, h4⟩ := q
      exact ⟨ys, by rw [upd_ne (ne_of_none h3 hp)]; exact h3, h4.aside hp⟩
    | dct _ _ =>
      obtain ⟨ys, o, h3, h5, h4⟩ := q
      exact ⟨ys, o, by rw [upd_ne (ne_of_none h3 hp)]; exact h3, h5, h4.aside hp⟩
    | obj _ _ => exact q.elim
  · rcases List.mem_cons.mp hb with e | hb
    · rw [e]
      exact ⟨show a ∉ m.ix from not_mem_of_none h hp, by rw [upd_same]; simp⟩
    · exact ⟨(h.apart b hb).1, (Ext.new (m := m) hp).live b (h.apart b hb).2⟩
theorem SimH.put {o : HO} (h : SimH K (m.apart a) H S) : SimH K (m.apart a) (upd H a o) S := by
  have hm : a ∉ m.ix := (h.apart a List.mem_cons_self).1
  refine ⟨h.len, h.nd, fun k ob b h1 h2 => ?_, fun b hb => ⟨(h.apart b hb).1, ?_⟩⟩
  · have q := h.obj k ob b h1 h2
    have hb : b ≠ a := fun e => hm (by rw [← e]; exact List.mem_of_getElem? h2)
    cases ob with
    | lst xs =>
      obtain ⟨ys, h3, h4⟩ := q
      exact ⟨ys, by rw [upd_ne hb]; exact h3, h4.put⟩
    | dct _ _ =>
      obtain ⟨ys, o, h3, h5, h4⟩ := q
      exact ⟨ys, o, by rw [upd_ne hb]; exact h3, h5, h4.put⟩
    | obj _ _ => exact q.elim
  · by_cases e : b = a
    · rw [e, upd_same]; simp
    · rw [upd_ne e]; exact (h.apart b hb).2
theorem SimH.back (h : SimH K (m.apart a) H S) : SimH K m H S :=
  ⟨h.len, h.nd, fun k ob b h1 h2 => by
    have q := h.obj k ob b h1 h2
    cases ob with
    | lst xs =>
      obtain ⟨ys, h3, h4⟩ := q
      exact ⟨ys, h3, h4.back⟩
    | dct _ _ =>
      obtain ⟨ys, o, h3, h5, h4⟩ := q
      exact ⟨ys, o, h3, h5, h4.back⟩
    | obj _ _ => exact q.elim, fun b hb => h.apart b (List.mem_cons_of_mem _ hb)⟩
end

/-! ### readings by a function -/
structure Sit (K : PySem.W.Frag) (m : Mp) (σv : Sv) (S : Hs) (σ : L2.St) (H : Hp) : Prop where
  h : SimH K m H S
  e : SimE K m H σv σ
theorem Sit.ext {K : PySem.W.Frag} {m m' : Mp} {σv : Sv} {S S' : Hs} {σ : L2.St} {H H' : Hp} (s : Sit K m σv S σ H) (x : Ext m H m' H') (h' : SimH K m' H' S') : Sit K m' σv S' σ H' := ⟨h', s.e.ext x⟩
/-- what must hold behind a value x and a heap S' -/
def Post (K : PySem.W.Frag) (m : Mp) (H : Hp) (x : VV) (S' : Hs) (Q : VK) : Prop := ∀ m' H' v, Ext m H m' H' → SimH K m' H' S' → R K m' H' x v → Q v H'
def Posts (K : PySem.W.Frag) (m : Mp) (H : Hp) (xs : List VV) (S' : Hs) (Q : List V → Hp → Prop) : Prop := ∀ m' H' vs, Ext m H m' H' → SimH K m' H' S' → Rs K m' H' xs vs → Q vs H'
def PostB (K : PySem.W.Frag) (m : Mp) (H : Hp) (b : Bool) (S' : Hs) (Q : Bool → Hp → Prop) : Prop := ∀ m' H', Ext m H m' H' → SimH K m' H' S' → Q b H'
section
variable {K : PySem.W.Frag} {m m1 : Mp} {H H1 : Hp} {S S' : Hs} {x : VV} {v : V} {Q : VK}
theorem Post.ext (e : Ext m H m1 H1) (p : Post K m H x S' Q) : Post K m1 H1 x S' Q := fun m' H' v e' h r => p m' H' v (e.trans e') h r
theorem Post.here (p : Post K m H x S Q) (h : SimH K m H S) (r : R K m H x v) : Q v H := p m H v Ext.refl h r
theorem Posts.ext {xs : List VV} {Q : List V → Hp → Prop} (e : Ext m H m1 H1) (p : Posts K m H xs S' Q) : Posts K m1 H1 xs S' Q := fun m' H' v e' h r => p m' H' v (e.trans e') h r
theorem PostB.ext {b : Bool} {Q : Bool → Hp → Prop} (e : Ext m H m1 H1) (p : PostB K m H b S' Q) : PostB K m1 H1 b S' Q := fun m' H' e' h => p m' H' (e.trans e') h
end
/-- what is wanted of an error, and how it lies -/
structure Wish where
  W : WX
  rx : Mp → Hp → VV → Value → Option Ad → Prop
def PostX (K : PySem.W.Frag) (w : Wish) (m : Mp) (H : Hp) (σ : L2.St) (v : VV) (S' : Hs) : Prop := ∀ m' H' cls d, Ext m H m' H' → SimH K m' H' S' → w.rx m' H' v cls d → w.W cls d σ H'
theorem PostX.ext {K : PySem.W.Frag} {w : Wish} {m m1 : Mp} {H H1 : Hp} {σ : L2.St} {v : VV} {S' : Hs} (e : Ext m H m1 H1) (p : PostX K w m H σ v S') : PostX K w m1 H1 σ v S' := fun m' H' c d e' h r => p m' H' c d (e.trans e') h r
/-- an outcome: what follows, or what is wanted of the error -/
def Res {α : Type} (K : PySem.W.Frag) (w : Wish) (m : Mp) (H : Hp) (σ : L2.St) (o : Out α) (k : α → Hs → Prop) : Prop := match o with
  | .ok x S' => k x S'
  | .exc v S' => PostX K w m H σ v S'
  | .bad => False
section
variable {α β : Type} {K : PySem.W.Frag} {w : Wish} {m m1 : Mp} {H H1 : Hp} {σ : L2.St}
theorem Res.bind {o : Out α} {g : α → Hs → Out β} {k : β → Hs → Prop} (h : Res K w m H σ (o.bind g) k) : Res K w m H σ o fun x S1 => Res K w m H σ (g x S1) k := by
  cases o <;> exact h
theorem Res.of_bind {o : Out α} {g : α → Hs → Out β} {k : β → Hs → Prop} (h : Res K w m H σ o fun x S1 => Res K w m H σ (g x S1) k) : Res K w m H σ (o.bind g) k := by
  cases o <;> exact h
theorem Res.imp {o : Out α} {k k' : α → Hs → Prop} (h : Res K w m H σ o k) (i : ∀ x S1, k x S1 → k' x S1) : Res K w m H σ o k' := by
  cases o with
  | ok x S1 => exact i x S1 h
  | exc v S1 => exact h
  | bad => exact h
theorem Res.ext {o : Out α} {k : α → Hs → Prop} (e : Ext m H m1 H1) (h : Res K w m H σ o k) : Res K w m1 H1 σ o k := by
  cases o with
  | ok x S1 => exact h
  | exc v S1 => exact PostX.ext e h
  | bad => exact h
theorem Res.ok {o : Out α} {k : α → Hs → Prop} (h : Res K w m H σ o k) (n : ∀ v s, o ≠ .exc v s) : ∃ x S', o = .ok x S' ∧ k x S' := by
  cases o with
  | ok x S1 => exact ⟨x, S1, rfl, h⟩
  | exc v S1 => exact absurd rfl (n v S1)
  | bad => exact h.elim
end
theorem lift_noX {α : Type} (o : Option α) (s : Hs) : ∀ v s', lift o s ≠ .exc v s' := by
  intro v s' h
  cases o <;> cases h
def rdE (K : PySem.W.Frag) (w : Wish) (f : Sv → Hs → Out VV) : TE := fun σ H Q => ∃ m σv S, Sit K m σv S σ H ∧ Res K w m H σ (f σv S) fun x S' => Post K m H x S' Q
def rdA (K : PySem.W.Frag) (w : Wish) (f : Sv → Hs → Out (List VV)) : TA := fun σ H Q => ∃ m σv S, Sit K m σv S σ H ∧ Res K w m H σ (f σv S) fun x S' => Posts K m H x S' Q
def rdT (K : PySem.W.Frag) (w : Wish) (f : Sv → Hs → Out Bool) : TT := fun σ H Q => ∃ m σv S, Sit K m σv S σ H ∧ Res K w m H σ (f σv S) fun x S' => PostB K m H x S' Q
theorem PE.imp {X : Cx} {e : Expr} {t t' : TE} (h : PE X e t) (i : ∀ σ H Q, t' σ H Q → t σ H Q) : PE X e t' := ⟨fun pins s σ H Q I q => h.run pins s σ H Q I (i σ H Q q)⟩
theorem PT.imp {X : Cx} {e : Expr} {t t' : TT} (h : PT X e t) (i : ∀ σ H Q, t' σ H Q → t σ H Q) : PT X e t' := ⟨fun pins s σ H Q I q => h.run pins s σ H Q I (i σ H Q q)⟩
theorem PA.imp {X : Cx} {e : List Expr} {t t' : TA} (h : PA X e t) (i : ∀ σ H Q, t' σ H Q → t σ H Q) : PA X e t' := ⟨fun pos pins s σ H Q I q => h.run pos pins s σ H Q I (i σ H Q q)⟩
section
variable {K : PySem.W.Frag} {w : Wish} {m : Mp} {σv : Sv} {S : Hs} {σ : L2.St} {H : Hp}
/-- one value, then what follows -/
theorem rd_then {f : Sv → Hs → Out VV} {Q : VK} (s : Sit K m σv S σ H) (e : Res K w m H σ (f σv S) fun x S1 => ∀ m' H' v, Ext m H m' H' → Sit K m' σv S1 σ H' → R K m' H' x v → Q v H') : rdE K w f σ H Q :=
  ⟨m, σv, S, s, e.imp fun x S1 k m' H' v ex h r => k m' H' v ex (s.ext ex h) r⟩
theorem rd_thenA {f : Sv → Hs → Out (List VV)} {Q : List V → Hp → Prop} (s : Sit K m σv S σ H) (e : Res K w m H σ (f σv S) fun x S1 => ∀ m' H' v, Ext m H m' H' → Sit K m' σv S1 σ H' → Rs K m' H' x v → Q v H') : rdA K w f σ H Q :=
  ⟨m, σv, S, s, e.imp fun x S1 k m' H' v ex h r => k m' H' v ex (s.ext ex h) r⟩
theorem rd_thenT {f : Sv → Hs → Out Bool} {Q : Bool → Hp → Prop} (s : Sit K m σv S σ H) (e : Res K w m H σ (f σv S) fun x S1 => ∀ m' H', Ext m H m' H' → Sit K m' σv S1 σ H' → Q x H') : rdT K w f σ H Q :=
  ⟨m, σv, S, s, e.imp fun x S1 k m' H' ex h => k m' H' ex (s.ext ex h)⟩
end
/-- a binary reading by values, sound for a function -/
def Op2 (K : PySem.W.Frag) (g : VV → VV → Hs → Out VV) (r : R2) : Prop := ∀ m H S x y v w z S' Q, SimH K m H S → R K m H x v → R K m H y w → g x y S = .ok z S' → Post K m H z S' Q → r v w H Q
def Op1 (K : PySem.W.Frag) (g : VV → Hs → Out VV) (r : V → Hp → VK → Prop) : Prop := ∀ m H S x v z S' Q, SimH K m H S → R K m H x v → g x S = .ok z S' → Post K m H z S' Q → r v H Q
def OpL (K : PySem.W.Frag) (g : List VV → Hs → Out VV) (r : List V → Hp → VK → Prop) : Prop := ∀ m H S x v z S' Q, SimH K m H S → Rs K m H x v → g x S = .ok z S' → Post K m H z S' Q → r v H Q
section
variable {K : PySem.W.Frag} {wi : Wish}
theorem rd_op2 {fa fb : Sv → Hs → Out VV} {g : VV → VV → Hs → Out VV} {r : R2} (h : Op2 K g r) (n : ∀ x y s v s', g x y s ≠ .exc v s') (σ : L2.St) (H : Hp) (Q : VK)
    (q : rdE K wi (fun σ s => (fa σ s).bind fun x s => (fb σ s).bind fun y s => g x y s) σ H Q) : tOp r (rdE K wi fa) (rdE K wi fb) σ H Q := by
  obtain ⟨m, σv, S, s, e⟩ := q
  refine rd_then s (e.bind.imp fun x S1 e1 m1 H1 v x1 s1 r1 => rd_then s1 ((e1.bind.ext x1).imp fun y S2 e2 m2 H2 w x2 s2 r2 => ?_))
  obtain ⟨z, S', e3, p⟩ := e2.ok (n x y S2)
  exact h m2 H2 S2 x y v w z S' Q s2.h (r1.ext x2) r2 e3 ((p.ext x1).ext x2)
theorem rd_op2k {fa fb : Sv → Hs → Out VV} {g : VV → VV → Hs → Out VV} {r : R2} (h : Op2 K g r) {β : Type} {g' : VV → VV → Hs → Out β} {kk : β → Hs → Prop} {m : Mp} {σv : Sv} {S : Hs} {σ : L2.St} {H : Hp} {Q : VK} (s : Sit K m σv S σ H)
    (q : Res K wi m H σ ((fa σv S).bind fun x s => (fb σv s).bind fun y s => g' x y s) kk) (cv : ∀ x y S2, Res K wi m H σ (g' x y S2) kk → ∃ z S', g x y S2 = .ok z S' ∧ Post K m H z S' Q) : tOp r (rdE K wi fa) (rdE K wi fb) σ H Q := by
  refine rd_then s (q.bind.imp fun x S1 e1 m1 H1 v x1 s1 r1 => rd_then s1 ((e1.bind.ext x1).imp fun y S2 e2 m2 H2 w x2 s2 r2 => ?_))
  obtain ⟨z, S', e3, p⟩ := cv x y S2 e2
  exact h m2 H2 S2 x y v w z S' Q s2.h (r1.ext x2) r2 e3 ((p.ext x1).ext x2)
theorem rd_op1 {fa : Sv → Hs → Out VV} {g : VV → Hs → Out VV} {r : V → Hp → VK → Prop} (h : Op1 K g r) (n : ∀ x s v s', g x s ≠ .exc v s') (σ : L2.St) (H : Hp) (Q : VK)
    (q : rdE K wi (fun σ s => (fa σ s).bind fun x s => g x s) σ H Q) : tUn r (rdE K wi fa) σ H Q := by
  obtain ⟨m, σv, S, s, e⟩ := q
  refine rd_then s (e.bind.imp fun x S1 e1 m1 H1 v x1 s1 r1 => ?_)
  obtain ⟨z, S', e3, p⟩ := e1.ok (n x S1)
  exact h m1 H1 S1 x v z S' Q s1.h r1 e3 (p.ext x1)
theorem rd_opL {fa : Sv → Hs → Out (List VV)} {g : List VV → Hs → Out VV} {r : List V → Hp → VK → Prop} (h : OpL K g r) (n : ∀ x s v s', g x s ≠ .exc v s') (σ : L2.St) (H : Hp) (Q : VK)
    (q : rdE K wi (fun σ s => (fa σ s).bind fun x s => g x s) σ H Q) : tCB r (rdA K wi fa) σ H Q := by
  obtain ⟨m, σv, S, s, e⟩ := q
  refine rd_thenA s (e.bind.imp fun x S1 e1 m1 H1 v x1 s1 r1 => ?_)
  obtain ⟨z, S', e3, p⟩ := e1.ok (n x S1)
  exact h m1 H1 S1 x v z S' Q s1.h r1 e3 (p.ext x1)
end
end Tw
set_option Elab.async false
set_option linter.all false
set_option autoImplicit false
set_option maxRecDepth 100000
/-! TwDcc: {key: value for ..}, the keys tuples. -/
namespace Tw
open PySem PySem.Spec PyProof.Rows L2
section
variable {X : Cx}
theorem dicR_empty (h : Heap) (hb : sysModules < h.objs.size) : DicR (h.push { cls := .type "dict", data := .dict #[] }) h.objs.size [] := by
  refine ⟨Nat.zero_le _, ?_, [], .nil, _, #[], 0, Heap.get?_push_size _ rfl, ⟨rfl, rfl, rfl⟩, rfl, rfl, List.nodup_nil⟩
  exact beq_false_of_ne (Nat.ne_of_gt hb)
theorem roomD (hu : X.A.units + 65 < cLine) : (nestedKind X.prog X.w).room X.A := by
  show X.A.units + 8 < cLine
  omega
/-- a pair is put in by a comprehension -/
theorem n_put {pins : List (Addr × Obj)} {σ : L2.St} {H H' : Hp} {s : Shared} {E : Value → Shared → Prop} {a : Ad} {y v : V} {u r : Value} {Q : Unit → Shared → Prop} (hu : X.A.units + 65 < cLine) (I : Inv X pins σ H s) (g : NPut X.K H a y v H') (ry : RelV y u) (rv : RelV v r)
    (h : ∀ s', Inv X pins σ H' s' → Q () s') : wpAny (model X.prog X.w) X.A (dictSet a u r) Q E s := by
  obtain ⟨xs, k, b, e, hk, rfl, hb, l, rfl⟩ := g
  cases (show u = Value.ref b from ry)
  obtain ⟨z, hd, ys, q, dd⟩ := dic_of I e hk
  have hz : (zsOf ys).length ≤ sizeLine := by unfold zsOf; rw [List.length_map, ← pairs_len q]; exact z
  have hl : (putN xs k b v).length ≤ sizeLine := by have := valN_len (xs := xs) (k := k) (b := b) (v := v); omega
  refine wpAny_dictSet_heap (hsz := hz) (roomD hu) (key_is I hb) dd fun h' dd' hs => h _ ?_
  obtain ⟨zs, q2, e2⟩ := stored_of (k := k) (b := b) q rv
  rw [e2] at dd'
  have he : ∃ q, h'.get? a = some q := let ⟨q, _, _, hq, _⟩ := dd'; ⟨q, hq⟩
  exact d_write I (by rw [e]; exact True.intro) hs he (dicO_new (dicR_of hl hd q2 dd'))
/-- what is asked of a dict's comprehension: N the new dict -/
def tNc (K : PySem.W.Frag) (wi : TI) (g : TG) (tt : TT) (tk tv : TE) (vs : List Nat) : TE := fun σ H Q => wi σ H fun J Ha => ∀ N, Ha N = none → ∃ W : Nat → Nat → Hp → Prop, (∃ n, W 0 n (upd Ha N (dicO N []))) ∧ ∀ i n Hb, W i n Hb →
  (J.stop i Hb ∧ Q (.ref N) Hb) ∨ (J.go i Hb ∧ ∃ Nx : Hp → Prop, (∀ Hc, Nx Hc → ∃ n', n' < n ∧ W (i + 1) n' Hc) ∧ ∀ x Hc, J.yld i Hb x Hc → g x (wipe σ vs) Hc fun σ2 Hd => wipe σ2 vs = wipe σ vs ∧ tt σ2 Hd fun b He =>
    if b = true then tk σ2 He fun y Hf => tv σ2 Hf fun z Hg => ∃ Hh, NPut K Hg N y z Hh ∧ Nx Hh else Nx He)
abbrev InBlk (X : Cx) (scope : Scope) (p : Cx → Prop) : Prop := ∀ (s : Shared) (H : Hp) (C : Addr) (cell : List (Str × Addr)) (fp : List Addr), p (X.blk s H scope (compEnvC scope cell C X.env) fp)
theorem nc_run {pins : List (Addr × Obj)} {s0 : Shared} {σ : L2.St} {H0 : Hp} {Q : VK} {kx vx tg iter : Expr} {ifs : List Expr} {scope : Scope} {own : List (Str × Nat)} {pos pos' : Pos} {wi : TI} {g : TG} {tt : TT} {tk tv : TE} {use : Option (Value → Sem Unit)} {Qf : Value → Shared → Prop}
    (hu : X.A.units + 65 < cLine) (calm : X.calm = true) (nd : X.N.Nodup) (I0 : Inv X pins σ H0 s0) (hi : PI X tg iter wi) (ok : BlkOk X.N X.env.scope scope own) (hg : InBlk X scope fun Y => PG Y tg g) (ht : InBlk X scope fun Y => PTs Y ifs tt) (hk : InBlk X scope fun Y => PE Y kx tk) (hv : InBlk X scope fun Y => PE Y vx tv)
    (fold : ∀ x, foldedSetIterable iter X.env x = pure x) (h : tNc X.K wi g tt tk tv (own.map (·.2)) σ H0 Q)
    (after : ∀ N C s' m H', Inv X pins σ H' s' → Q (.ref N) H' → s'.heap.Ns C m → FpOk X pins H' C → compPost (model X.prog X.w) X.A X.xe use Qf (.ref N) C (.ok .next) s') :
    wpAny (model X.prog X.w) X.A (comprehension (.DictComp kx vx [⟨tg, iter, ifs, 0⟩] scope pos) scope X.env pos' newDict false (eval iter X.env) use) Qf X.xe s0 := by
  have hfree : ∀ y ∈ scope.names, y.2 = .free → ∃ c, X.env.cells.lookup y.1 = some c := fun y hy e => (ok.free y hy e).elim (fun z => I0.ok.has _ (.inl z)) fun z => I0.ok.has _ (.inr z)
  refine wpAny_comprehension_free (use := use) rfl fold (closure_ok hfree) ok.kind (fun y hy e => by rw [ok.uniq y hy, e]) (thn (hi.run pins s0 σ H0 _ I0 h) fun seqv sa qa => thn qa fun itv sb qb => ?_)
  obtain ⟨it, fp, inv, J, Ha, rfl, Ia, T, sta, fpa, q⟩ := qb
  refine wpAny_newObj_type (newEnv_comp ?_)
  obtain ⟨N, hN⟩ : ∃ N, sb.heap.objs.size = N := ⟨_, rfl⟩
  rw [hN]
  have free : Ha N = none := Ia.hok.fresh (Nat.le_of_eq hN)
  obtain ⟨W, ⟨n0, w0⟩, turn⟩ := q N free
  obtain ⟨sc, hsc⟩ : ∃ sc : Shared, sc = { sb with heap := sb.heap.push { cls := .type "dict", data := .dict #[] } } := ⟨_, rfl⟩
  rw [← hsc]
  have hpc : sc.heap = sb.heap.push { cls := .type "dict", data := .dict #[] } := by rw [hsc]
  have Ic : Inv X pins σ (upd Ha N (dicO N [])) sc := by
    rw [hsc]
    refine Ia.laid (t' := sb.toks) (fun b o e => Heap.get?_push_of_some _ e) (Nat.le_of_eq hN) (dicO_new ?_)
    have := dicR_empty sb.heap Ia.big
    rwa [hN] at this
  have below : ∀ b ∈ fp, b < sb.heap.objs.size := fun b hb => let ⟨o, e, _⟩ := T.obj _ _ sta b hb; Heap.lt_size e
  have fpc : ∀ b ∈ fp, FpOk X pins (upd Ha N (dicO N [])) b ∧ b < sc.heap.objs.size := fun b hb => by
    have lt := below b hb
    refine ⟨⟨?_, (fpa b hb).2⟩, by rw [hpc, Heap.size_push]; exact Nat.lt_succ_of_lt lt⟩
    rw [upd_ne (by rw [← hN]; exact Nat.ne_of_lt lt)]
    exact (fpa b hb).1
  have stc : inv 0 sc.heap := T.keep _ _ _ sta fun b _ o e => by rw [hpc]; exact Heap.get?_push_of_some _ e
  have Id := block_start Ic ok nd fpc
  obtain ⟨env, henv⟩ : ∃ env, env = compEnvC scope (cellsFrom (sc.heap.objs.size + 1) scope.names (cloFrom X.env.cells scope.names [])) sc.heap.objs.size X.env := ⟨_, rfl⟩
  have Pg := hg sc (upd Ha N (dicO N [])) sc.heap.objs.size (cellsFrom (sc.heap.objs.size + 1) scope.names (cloFrom X.env.cells scope.names [])) fp
  have Pt := ht sc (upd Ha N (dicO N [])) sc.heap.objs.size (cellsFrom (sc.heap.objs.size + 1) scope.names (cloFrom X.env.cells scope.names [])) fp
  have Pk := hk sc (upd Ha N (dicO N [])) sc.heap.objs.size (cellsFrom (sc.heap.objs.size + 1) scope.names (cloFrom X.env.cells scope.names [])) fp
  have Pv := hv sc (upd Ha N (dicO N [])) sc.heap.objs.size (cellsFrom (sc.heap.objs.size + 1) scope.names (cloFrom X.env.cells scope.names [])) fp
  obtain ⟨sd, hsd⟩ : ∃ sd : Shared, sd = { sc with heap := pushCells (sc.heap.push { cls := .type "dict", data := .dict #[] }) scope.names } := ⟨_, rfl⟩
  show codeAny _ _ (.compStart (.DictComp kx vx [⟨tg, iter, ifs, 0⟩] scope pos) 0 (.ref it) (.ref N) (compEnvC scope (cellsFrom (sc.heap.objs.size + 1) scope.names (cloFrom X.env.cells scope.names [])) sc.heap.objs.size X.env)) (compPost (model X.prog X.w) X.A X.xe use Qf (.ref N) sc.heap.objs.size)
    { sc with heap := pushCells (sc.heap.push { cls := .type "dict", data := .dict #[] }) scope.names }
  rw [← henv] at Id Pg Pt Pk Pv ⊢
  rw [← hsd] at Id ⊢
  have locC : env.locals = sc.heap.objs.size := by rw [henv]; rfl
  have none_fp : ∀ b ∈ fp, (upd Ha N (dicO N [])) b = none := fun b hb => (fpc b hb).1.1
  obtain ⟨Hn, hHn⟩ : ∃ Hn, Hn = upd Ha N (dicO N []) := ⟨_, rfl⟩
  rw [← hHn] at Ic Id Pg Pt Pk Pv w0 none_fp fpc
  have stD : inv 0 sd.heap := T.keep _ _ _ stc fun b _ o e => by rw [hsd]; exact pushCells_keeps _ _ _ _ (Heap.get?_push_of_some _ e)
  have still : ∀ {σ' : L2.St} {H' : Hp} {s' : Shared}, Inv (X.blk sc Hn scope env fp) [] σ' H' s' → (∀ b ∈ fp, H' b = none) → ∀ b ∈ fp, FpOk (X.blk sc Hn scope env fp) [] H' b := fun {σ' H' s'} I' no b hb =>
    ⟨no b hb, (I'.ok.exf b hb).1, I'.ok.exfs b hb, .inl hb, fun x c e => (I'.ok.exf b hb).2 x c e, fun p hp => absurd (show p ∈ ([] : List (Addr × Obj)) ++ [] from hp) (by simp)⟩
  let Turn : Nat → Shared → Prop := fun n s' => ∃ i H', Inv (X.blk sc Hn scope env fp) [] (wipe σ (own.map (·.2))) H' s' ∧ inv i s'.heap ∧ (∀ b ∈ fp, H' b = none) ∧ W i n H'
  have loop : codeAny (model X.prog X.w) X.A (.compLoop (.DictComp kx vx [⟨tg, iter, ifs, 0⟩] scope pos) 0 (.ref it) (.ref N) env) (compPost (model X.prog X.w) X.A X.xe use Qf (.ref N) sc.heap.objs.size) sd := by
    refine compLoop_anyD Turn ?_ n0 ⟨0, Hn, Id, stD, none_fp, w0⟩
    rintro n s1 ⟨i, H1, I1, st1, no1, w1⟩
    rcases turn i n H1 w1 with ⟨stop, fine⟩ | ⟨go, Nx, hNx, step⟩
    · refine thnF (T.done (X.blk sc Hn scope env fp) rfl rfl rfl calm i [] s1 _ H1 (fun _ _ => False) I1 (still I1 no1) st1 stop) fun r s2 qd => ?_
      obtain ⟨rfl, I2⟩ := qd
      have back : Inv X pins σ H1 s2 := Ic.call' (ch := fp) I2.os I2.base I2.hok I2.bare fun b hb => ⟨(fpc b hb).1.2.2.2.1, (fpc b hb).1.2.1, (fpc b hb).1.2.2.2.2.1, (fpc b hb).1.2.2.2.2.2⟩
      have noC : H1 sc.heap.objs.size = none := by
        have := (show H1 env.locals = none from I2.free)
        rwa [locC] at this
      obtain ⟨mm, ns, _⟩ := I2.loc
      have ns : s2.heap.Ns env.locals mm := ns
      rw [locC] at ns
      exact after N sc.heap.objs.size s2 mm H1 back fine ns (Ic.fpOk (Nat.le_refl _) noC)
    · refine thnF (T.item (X.blk sc Hn scope env fp) rfl rfl rfl calm i [] s1 _ H1 (fun _ _ => False) I1 (still I1 no1) st1 go) fun r s2 qi => ?_
      obtain ⟨u, rfl, h2⟩ := qi
      refine thnF h2 fun _ s3 q3 => ?_
      obtain ⟨x, H3, I3, r3, y3, st3, no3⟩ := q3
      have I3p := I3.pinned (still I3 no3) (T.obj _ _ st3)
      refine thnF (Pg.run _ s3 _ H3 x u _ I3p r3 (step x H3 y3)) fun _ s4 q4 => ?_
      obtain ⟨σ4, H4, I4, hw4, t4⟩ := q4
      refine thnF (Pt.run _ s4 σ4 H4 _ I4 t4) fun b s5 q5 => ?_
      obtain ⟨H5, I5, t5⟩ := q5
      have over : ∀ {s' : Shared} {H' : Hp}, Inv (X.blk sc Hn scope env fp) ([] ++ pinsAt fp s3.heap) σ4 H' s' → Nx H' → ∃ m, m < n ∧ Turn m s' := fun {s' H'} I' nx => by
        obtain ⟨m', lt, w'⟩ := hNx H' nx
        have pin : ∀ b ∈ fp, ∀ o, s3.heap.get? b = some o → s'.heap.get? b = some o ∧ H' b = none := fun b hb o e =>
          let z := I'.pin (b, o) (List.mem_append_right _ (List.mem_append_right _ (mem_pinsAt hb e)))
          ⟨z.1, z.2.1⟩
        have len : (wipe σ (own.map (·.2))).length = σ4.length := by rw [← hw4, wipe_length]
        refine ⟨m', lt, i + 1, H', (I'.unpinned (pins := [])).weak len (fun j v e => ?_), T.keep _ _ _ st3 fun b hb o e => (pin b hb o e).1, fun b hb => ?_, w'⟩
        · rw [← hw4] at e
          exact (wipe_some e).1
        · obtain ⟨o, e, _⟩ := T.obj _ _ st3 b hb
          exact (pin b hb o e).2
      cases b with
      | false =>
        have t5 : Nx H5 := by simpa using t5
        have := over I5 t5
        simpa using this
      | true =>
        rw [if_pos rfl]
        have t5 : tk σ4 H5 fun y Hf => tv σ4 Hf fun z Hg => ∃ Hh, NPut X.K Hg N y z Hh ∧ Nx Hh := by simpa using t5
        refine thnF (Pk.run _ s5 σ4 H5 _ I5 t5) fun kw s6 q6 => ?_
        obtain ⟨yk, H6, I6, r6, t6⟩ := q6
        refine thnF (Pv.run _ s6 σ4 H6 _ I6 t6) fun vw s7 q7 => ?_
        obtain ⟨yv, H7, I7, r7, Hh, g7, nx⟩ := q7
        exact n_put (X := X.blk sc Hn scope env fp) (show X.A.units + 65 < cLine from hu) I7 g7 r6 r7 fun s8 I8 => over I8 nx
  exact codeAny_compStart_dict loop (T.self X.A 0 _ _ _ stD loop)
/-- as a value -/
theorem pe_nc {kx vx tg iter : Expr} {ifs : List Expr} {scope : Scope} {own : List (Str × Nat)} {pos : Pos} {wi : TI} {g : TG} {tt : TT} {tk tv : TE} (hu : X.A.units + 65 < cLine) (calm : X.calm = true) (nd : X.N.Nodup) (hi : PI X tg iter wi) (ok : BlkOk X.N X.env.scope scope own)
    (hg : InBlk X scope fun Y => PG Y tg g) (ht : InBlk X scope fun Y => PTs Y ifs tt) (hk : InBlk X scope fun Y => PE Y kx tk) (hv : InBlk X scope fun Y => PE Y vx tv) (fold : ∀ x, foldedSetIterable iter X.env x = pure x) :
    PE X (.DictComp kx vx [⟨tg, iter, ifs, 0⟩] scope pos) (tNc X.K wi g tt tk tv (own.map (·.2))) := by
  refine ⟨fun pins s σ H Q I h => ?_⟩
  rw [arm_eval_DictComp]
  refine nc_run hu calm nd I hi ok hg ht hk hv fold h fun N C s' m H' I' q ns fpo => ⟨m, ns, fun h'' same => ?_⟩
  obtain ⟨f0, f1, f2, f3, f4, f5⟩ := fpo
  exact ⟨.ref N, H', I'.turned (t' := s'.toks) (fun b o hb e => (same.2 b hb).trans e) f0 f1 f3 f4 f5, rfl, q⟩
end
end Tw
set_option Elab.async false
set_option linter.all false
set_option autoImplicit false
set_option maxRecDepth 100000
/-! TwDop: dicts of the small language, by values. -/
namespace Tw
open PySem PySem.Spec PyProof.Rows L2
/-- what a dict at a holds at y, whatever its keys -/
def XGet (K : PySem.W.Frag) (H : Hp) (a : Ad) (y : V) (r : Option V) : Prop := DGet H a y r ∨ NGet K H a y r
def XPut (K : PySem.W.Frag) (H : Hp) (a : Ad) (y v : V) (H' : Hp) : Prop := DPut H a y v H' ∨ NPut K H a y v H'
/-- two readings of a place -/
def ROv (K : PySem.W.Frag) (m : Mp) (H : Hp) : Option VV → Option V → Prop
  | some x, some v => R K m H x v
  | none, none => True
  | _, _ => False
theorem ROv.isSome {K : PySem.W.Frag} {m : Mp} {H : Hp} {x : Option VV} {v : Option V} (h : ROv K m H x v) : x.isSome = v.isSome := by
  cases x <;> cases v <;> first | rfl | exact h.elim
section
variable {K : PySem.W.Frag} {m : Mp} {H : Hp} {S S' : Hs} {x y z : VV} {v w : V} {Q : VK}
theorem kF_rd : ∀ {ks : List VV} {kf : KF} {vs : List V}, mapO kF1 ks = some kf → Rs K m H ks vs → vs = kf.map k1V
  | [], _, _, e, .nil => by cases e; rfl
  | k :: ks, _, _, e, .cons r t => by
    unfold mapO at e
    split at e
    · rename_i a as e1 e2
      cases e
      rw [List.map_cons, kF_rd e2 t]
      cases r <;> simp [kF1] at e1
      · subst e1; rfl
      · subst e1; rfl
    · cases e
/-- the dict itself -/
theorem dct_rd (h : SimH K m H S) (rx : R K m H x v) {t : Bool} {kvs : List (VV × VV)} (e : dctOf S x = some (t, kvs)) : ∃ a o xs, v = .ref a ∧ H a = some o ∧ dcO a t xs o ∧ Rp K m H kvs xs := by
  cases rx <;> simp [dctOf] at e
  · rename_i k a hk
    split at e
    · rename_i t' kvs' es
      cases e
      obtain ⟨xs, o, h1, h2, h3⟩ := h.obj k _ a es hk
      exact ⟨a, o, xs, rfl, h1, h2, h3⟩
    · cases e
  · obtain ⟨rfl, rfl⟩ := e
    exact ⟨_, _, _, rfl, by assumption, by assumption, by assumption⟩
theorem look_i' {n : Int} : ∀ {kvs : List (VV × VV)} {xs : List (DK × V)}, Rp K m H kvs xs → ∀ ps : List (Int × V), xs = ps.map (fun p => (DK.i p.1, p.2)) → ROv K m H (lookD kvs (.i n)) (valV (ps.map fun p => ((Sum.inl p.1 : L2.Key), p.2)) (Sum.inl n))
  | _, _, .nil, [], _ => trivial
  | _, _, .nil, _ :: _, h => by simp at h
  | _, _, .int _ _, [], h => by simp at h
  | _, _, .tup _ _ _ _, [], h => by simp at h
  | _, _, .tup _ _ _ _, _ :: _, h => by simp at h
  | _, _, .int r t, p :: ps, h => by
    rw [List.map_cons] at h
    injection h with h1 h2
    injection h1 with h1 h3
    injection h1 with h1
    have ih := look_i' (n := n) t ps h2
    unfold lookD at ih ⊢
    rw [List.find?_cons, List.map_cons]
    by_cases e : p.1 = n
    · rw [valV_pos (by rw [e])]
      rename_i i x v kvs xs
      have : keyD (VV.int i) = some (.i n) := by rw [h1, e]; rfl
      simp only [this, decide_true]
      rw [← h3]
      exact r
    · rw [valV_neg (fun z => e (by injection z))]
      rename_i i x v kvs xs
      have : ¬ keyD (VV.int i) = some (.i n) := fun z => e (by rw [h1] at z; injection z with z; injection z)
      simp only [this, decide_false]
      exact ih
theorem look_i {n : Int} {kvs : List (VV × VV)} {ps : List (Int × V)} (h : Rp K m H kvs (ps.map fun p => (DK.i p.1, p.2))) : ROv K m H (lookD kvs (.i n)) (valV (ps.map fun p => ((Sum.inl p.1 : L2.Key), p.2)) (Sum.inl n)) := look_i' h ps rfl
theorem keyD_tup {ks : List VV} {kf : KF} (h : mapO kF1 ks = some kf) : keyD (.tup ks) = some (.t kf) := by
  show (mapO kF1 ks).map DKey.t = _
  rw [h]
  rfl
theorem look_t' {k : KF} : ∀ {kvs : List (VV × VV)} {xs : List (DK × V)}, Rp K m H kvs xs → ∀ ps : Prs, xs = ps.map (fun p => (DK.t p.1 p.2.1, p.2.2)) → ROv K m H (lookD kvs (.t k)) (valN ps k) ∧ ∀ x ∈ ps, KeyAt K H x.1 x.2.1
  | _, _, .nil, [], _ => ⟨trivial, fun x hx => nomatch hx⟩
  | _, _, .nil, _ :: _, h => by simp at h
  | _, _, .int _ _, [], h => by simp at h
  | _, _, .tup _ _ _ _, [], h => by simp at h
  | _, _, .int _ _, _ :: _, h => by simp at h
  | _, _, .tup hk f r t, p :: ps, h => by
    rw [List.map_cons] at h
    injection h with h1 h2
    injection h1 with h1 h3
    injection h1 with h1 h4
    obtain ⟨ih, ih2⟩ := look_t' (k := k) t ps h2
    refine ⟨?_, fun x hx => ?_⟩
    · unfold lookD valN at ih ⊢
      rw [List.find?_cons, List.find?_cons]
      rename_i ks kf b x v kvs xs
      have kd := keyD_tup hk
      by_cases e : p.1 = k
      · have : keyD (VV.tup ks) = some (.t k) := by rw [kd, h1, e]
        simp only [this, e, decide_true]
        show R K m H _ p.2.2
        rw [← h3]
        exact r
      · have : ¬ keyD (VV.tup ks) = some (.t k) := fun z => e (by rw [kd, h1] at z; injection z with z; injection z)
        simp only [this, e, decide_false]
        exact ih
    · rcases List.mem_cons.mp hx with e | hx
      · subst e
        rw [← h1, ← h4]
        exact f.sq
      · exact ih2 x hx
theorem look_t {k : KF} {kvs : List (VV × VV)} {ps : Prs} (h : Rp K m H kvs (ps.map fun p => (DK.t p.1 p.2.1, p.2.2))) : ROv K m H (lookD kvs (.t k)) (valN ps k) := (look_t' h ps rfl).1
theorem Rp.keys {kvs : List (VV × VV)} {ps : Prs} (h : Rp K m H kvs (ps.map fun p => (DK.t p.1 p.2.1, p.2.2))) : ∀ x ∈ ps, KeyAt K H x.1 x.2.1 := (look_t' (k := []) h ps rfl).2
theorem Rp.length : ∀ {kvs : List (VV × VV)} {xs : List (DK × V)}, Rp K m H kvs xs → kvs.length = xs.length
  | _, _, .nil => rfl
  | _, _, .int _ t => by rw [List.length_cons, List.length_cons, Rp.length t]
  | _, _, .tup _ _ _ t => by rw [List.length_cons, List.length_cons, Rp.length t]
/-- a key, as it lies -/
theorem key_rd (ry : R K m H y w) {k : DKey} (e : keyD y = some k) : (∃ n, k = .i n ∧ y = .int n ∧ w = .int n) ∨ ∃ kf ks b, k = .t kf ∧ y = .tup ks ∧ mapO kF1 ks = some kf ∧ w = .ref b ∧ FzT K m H b (kf.map k1V) := by
  cases ry <;> simp [keyD] at e
  · exact .inl ⟨_, e.symm, rfl, rfl⟩
  · rename_i a xs ys f t
    obtain ⟨kf, e1, e2⟩ := e
    have f : FzT K m H a ys := by assumption
    have t : Rs K m H xs ys := by assumption
    refine .inr ⟨kf, xs, a, e2.symm, rfl, e1, rfl, ?_⟩
    rw [← kF_rd e1 t]
    exact f
theorem get_rd (h : SimH K m H S) (rx : R K m H x v) (ry : R K m H y w) {o : Option VV} (e : getDV S x y = some o) : ∃ a r, v = .ref a ∧ XGet K H a w r ∧ ROv K m H o r := by
  unfold getDV at e
  split at e
  · rename_i t kvs k e1 e2
    split at e
    · rename_i ht
      cases e
      obtain ⟨a, ob, xs, rfl, h1, h2, h3⟩ := dct_rd h rx e1
      rcases h2 with ⟨rfl, ps, rfl, rfl⟩ | ⟨rfl, ps, rfl, rfl⟩
      · rcases key_rd ry e2 with ⟨n, rfl, rfl, rfl⟩ | ⟨kf, ks, b, rfl, _⟩
        · exact ⟨a, _, rfl, .inl (.inl ⟨_, Sum.inl n, .inl h1, rfl, rfl⟩), look_i h3⟩
        · cases ht
      · rcases key_rd ry e2 with ⟨n, rfl, _⟩ | ⟨kf, ks, b, rfl, rfl, hk, rfl, hf⟩
        · cases ht
        · exact ⟨a, _, rfl, .inr ⟨ps, kf, b, h1, h3.keys, rfl, hf.sq, rfl⟩, look_t h3⟩
    · cases e
  · cases e
end
section
variable {K : PySem.W.Frag} {m : Mp} {H : Hp} {z : VV} {v : V}
theorem Rp.snoc {k : VV} {d : DK} : ∀ {kvs : List (VV × VV)} {xs : List (DK × V)}, Rp K m H kvs xs → Rp K m H [(k, z)] [(d, v)] → Rp K m H (kvs ++ [(k, z)]) (xs ++ [(d, v)])
  | _, _, .nil, q => q
  | _, _, .int r t, q => .int r (Rp.snoc t q)
  | _, _, .tup a b r t, q => .tup a b r (Rp.snoc t q)
theorem swap_i {n : Int} (rz : R K m H z v) : ∀ {kvs : List (VV × VV)} {xs : List (DK × V)}, Rp K m H kvs xs → ∀ ps : List (Int × V), xs = ps.map (fun p => (DK.i p.1, p.2)) →
    Rp K m H (kvs.map fun p => if keyD p.1 = some (.i n) then (p.1, z) else p) ((ps.map fun p => if p.1 = n then (p.1, v) else p).map fun p => (DK.i p.1, p.2))
  | _, _, .nil, [], _ => .nil
  | _, _, .nil, _ :: _, h => by simp at h
  | _, _, .int _ _, [], h => by simp at h
  | _, _, .tup _ _ _ _, [], h => by simp at h
  | _, _, .tup _ _ _ _, _ :: _, h => by simp at h
  | _, _, .int r t, p :: ps, h => by
    rw [List.map_cons] at h
    injection h with h1 h2
    injection h1 with h1 h3
    injection h1 with h1
    have ih := swap_i (n := n) rz t ps h2
    rw [List.map_cons, List.map_cons, List.map_cons]
    rename_i i x u kvs xs
    by_cases e : p.1 = n
    · rw [if_pos (show keyD (VV.int i) = some (.i n) by rw [h1, e]; rfl), if_pos e, h1]
      exact .int rz ih
    · rw [if_neg (show ¬ keyD (VV.int i) = some (.i n) from fun z => e (by rw [h1] at z; injection z with z; injection z)), if_neg e, h1]
      rw [h3] at r
      exact .int r ih
theorem swap_t {k : KF} (rz : R K m H z v) : ∀ {kvs : List (VV × VV)} {xs : List (DK × V)}, Rp K m H kvs xs → ∀ ps : Prs, xs = ps.map (fun p => (DK.t p.1 p.2.1, p.2.2)) →
    Rp K m H (kvs.map fun p => if keyD p.1 = some (.t k) then (p.1, z) else p) ((ps.map fun p => if p.1 = k then (p.1, p.2.1, v) else p).map fun p => (DK.t p.1 p.2.1, p.2.2))
  | _, _, .nil, [], _ => .nil
  | _, _, .nil, _ :: _, h => by simp at h
  | _, _, .int _ _, [], h => by simp at h
  | _, _, .tup _ _ _ _, [], h => by simp at h
  | _, _, .int _ _, _ :: _, h => by simp at h
  | _, _, .tup hk f r t, p :: ps, h => by
    rw [List.map_cons] at h
    injection h with h1 h2
    injection h1 with h1 h3
    injection h1 with h1 h4
    have ih := swap_t (k := k) rz t ps h2
    rw [List.map_cons, List.map_cons, List.map_cons]
    rename_i ks kf b x u kvs xs
    have kd := keyD_tup hk
    by_cases e : p.1 = k
    · rw [if_pos (show keyD (VV.tup ks) = some (.t k) by rw [kd, h1, e]), if_pos e]
      show Rp K m H _ ((DK.t p.1 p.2.1, v) :: _)
      rw [← h1, ← h4]
      exact .tup hk f rz ih
    · rw [if_neg (show ¬ keyD (VV.tup ks) = some (.t k) from fun z => e (by rw [kd, h1] at z; injection z with z; injection z)), if_neg e]
      show Rp K m H _ ((DK.t p.1 p.2.1, p.2.2) :: _)
      rw [← h1, ← h4, ← h3]
      exact .tup hk f r ih
theorem putK_i {n : Int} {kvs : List (VV × VV)} {ps : List (Int × V)} (h : Rp K m H kvs (ps.map fun p => (DK.i p.1, p.2))) (rz : R K m H z v) :
    ∃ ps' : List (Int × V), putK (ps.map fun p => ((Sum.inl p.1 : L2.Key), p.2)) (Sum.inl n) v = ps'.map (fun p => ((Sum.inl p.1 : L2.Key), p.2)) ∧ Rp K m H (putD kvs (.int n) (.i n) z) (ps'.map fun p => (DK.i p.1, p.2)) := by
  have hs := (look_i (n := n) h).isSome
  unfold putK putD
  rw [valV_any, hs]
  cases (valV (ps.map fun p => ((Sum.inl p.1 : L2.Key), p.2)) (Sum.inl n)).isSome with
  | true =>
    rw [if_pos rfl, if_pos rfl]
    refine ⟨ps.map fun p => if p.1 = n then (p.1, v) else p, ?_, swap_i rz h ps rfl⟩
    rw [List.map_map, List.map_map]
    apply List.map_congr_left
    intro p _
    show (if (Sum.inl p.1 : L2.Key) = Sum.inl n then ((Sum.inl p.1 : L2.Key), v) else (Sum.inl p.1, p.2)) = ((Sum.inl (if p.1 = n then (p.1, v) else p).1 : L2.Key), (if p.1 = n then (p.1, v) else p).2)
    by_cases e : p.1 = n
    · rw [if_pos e, if_pos (by rw [e])]
    · rw [if_neg e, if_neg (fun z => e (by injection z))]
  | false =>
    rw [if_neg (by decide), if_neg (by decide)]
    refine ⟨ps ++ [(n, v)], by simp, ?_⟩
    rw [List.map_append]
    exact h.snoc (.int rz .nil)
theorem putN_t {k : KF} {ks : List VV} {b : Ad} {kvs : List (VV × VV)} {ps : Prs} (h : Rp K m H kvs (ps.map fun p => (DK.t p.1 p.2.1, p.2.2))) (hk : mapO kF1 ks = some k) (f : FzT K m H b (k.map k1V)) (rz : R K m H z v) :
    Rp K m H (putD kvs (.tup ks) (.t k) z) ((putN ps k b v).map fun p => (DK.t p.1 p.2.1, p.2.2)) := by
  have hs := (look_t (k := k) h).isSome
  unfold putN putD
  rw [hs]
  cases (valN ps k).isSome with
  | true =>
    rw [if_pos rfl, if_pos rfl]
    exact swap_t rz h ps rfl
  | false =>
    rw [if_neg (by decide), if_neg (by decide), List.map_append]
    exact h.snoc (.tup hk f rz .nil)
theorem put_rd {a : Ad} {t : Bool} {kvs : List (VV × VV)} {xs : List (DK × V)} {o : HO} {y : VV} {w : V} {k : DKey} (ho : H a = some o) (hd : dcO a t xs o) (hp : Rp K m H kvs xs) (ry : R K m H y w) (hk : keyD y = some k) (ht : k.tu = t) (hl : kvs.length < szL) (rz : R K m H z v) :
    ∃ o' xs', (t = true → NPut K H a w v (upd H a o')) ∧ (t = false → ∃ us j, H a = some (.dK us) ∧ w = kV j ∧ us.length < sizeLine ∧ o' = .dK (putK us j v)) ∧ dcO a t xs' o' ∧ Rp K m H (putD kvs y k z) xs' := by
  have e63 : szL = sizeLine := by rw [sizeLine_eq]; rfl
  rcases hd with ⟨rfl, ps, rfl, rfl⟩ | ⟨rfl, ps, rfl, rfl⟩
  · rcases key_rd ry hk with ⟨n, rfl, rfl, rfl⟩ | ⟨kf, ks, b, rfl, _⟩
    · obtain ⟨ps', e1, e2⟩ := putK_i (n := n) hp rz
      refine ⟨_, _, fun z => (nomatch z), fun _ => ⟨_, Sum.inl n, ho, rfl, ?_, rfl⟩, .inl ⟨rfl, ps', rfl, by rw [e1]⟩, e2⟩
      have := hp.length
      rw [List.length_map] at this ⊢
      omega
    · cases ht
  · rcases key_rd ry hk with ⟨n, rfl, _⟩ | ⟨kf, ks, b, rfl, rfl, hk, rfl, hf⟩
    · cases ht
    · refine ⟨_, _, fun _ => ⟨ps, kf, b, ho, hp.keys, rfl, hf.sq, ?_, rfl⟩, fun z => (nomatch z), .inr ⟨rfl, _, rfl, rfl⟩, putN_t hp hk hf rz⟩
      have := hp.length
      rw [List.length_map] at this
      omega
theorem xput_of {a : Ad} {t : Bool} {w : V} {o' : HO} (h1 : t = true → NPut K H a w v (upd H a o')) (h2 : t = false → ∃ us j, H a = some (.dK us) ∧ w = kV j ∧ us.length < sizeLine ∧ o' = .dK (putK us j v)) : XPut K H a w v (upd H a o') := by
  cases t with
  | true => exact .inr (h1 rfl)
  | false =>
    obtain ⟨us, j, e1, e2, e3, e4⟩ := h2 rfl
    exact .inl (.inl ⟨us, j, e1, e2, e3, by rw [e4]⟩)
end
section
variable {X : Cx}
def rItX (K : PySem.W.Frag) : R2 := fun x y H Q => ∃ a v, x = .ref a ∧ XGet K H a y (some v) ∧ Q v H
theorem ix_X (hu : X.A.units + 65 < cLine) : IxR X (rItX X.K) := by
  intro value slice pins s σ H x y v u Q I rx ry h hs
  obtain ⟨a, z, rfl, g, q⟩ := h
  rcases g with g | g
  · cases (show v = Value.ref a from rx)
    exact tail_any (dict_typeIs I g) PySem.F.slot_dict_getitem.lookup (d_getItem (by omega) I g ry fun w' s' I' rw' => ⟨z, H, I', rw', q⟩) hs
  · exact ix_N hu value slice pins s σ H _ y v u Q I rx ry ⟨a, z, rfl, g, q⟩ hs
def rInX (K : PySem.W.Frag) (neg : Bool) : R2 := fun x y H Q => ∃ a o, y = .ref a ∧ XGet K H a x o ∧ Q (.bl (neg != o.isSome)) H
theorem op_inX (hu : X.A.units + 65 < cLine) : OpR X (compareOp .In) (rInX X.K false) := by
  intro pins s σ H x y v u Q I rx ry h
  obtain ⟨a, o, rfl, g, q⟩ := h
  rcases g with g | g
  · cases (show u = Value.ref a from ry)
    refine d_in (by omega) I g rx fun s' I' => ⟨.bl o.isSome, H, I', rfl, ?_⟩
    rw [show (false != o.isSome) = o.isSome by cases o.isSome <;> rfl] at q
    exact q
  · exact op_inN hu pins s σ H x _ v u Q I rx ry ⟨a, o, rfl, g, q⟩
theorem op_notInX (hu : X.A.units + 65 < cLine) : OpR X (compareOp .NotIn) (rInX X.K true) := by
  intro pins s σ H x y v u Q I rx ry h
  obtain ⟨a, o, rfl, g, q⟩ := h
  rcases g with g | g
  · cases (show u = Value.ref a from ry)
    refine d_notIn (by omega) I g rx fun s' I' => ⟨.bl (!o.isSome), H, I', rfl, ?_⟩
    rw [show (true != o.isSome) = !o.isSome by cases o.isSome <;> rfl] at q
    exact q
  · exact op_notInN hu pins s σ H x _ v u Q I rx ry ⟨a, o, rfl, g, q⟩
def rSetX (K : PySem.W.Frag) : V → V → V → Hp → (Hp → Prop) → Prop := fun o i v H Q => ∃ a H', o = .ref a ∧ XPut K H a i v H' ∧ Q H'
theorem set_X (hu : X.A.units + 65 < cLine) : PSet X (rSetX X.K) := by
  intro pins s σ H o i v ov iv u Q I ro ri rv h
  obtain ⟨a, H', rfl, g, q⟩ := h
  cases (show ov = Value.ref a from ro)
  rcases g with g | g
  · exact d_setItem (by omega) I g ri rv fun s' I' => ⟨H', I', q⟩
  · exact n_setItem hu I g ri rv fun s' I' => ⟨H', I', q⟩
/-- d.get(k, x) -/
def IsX (K : PySem.W.Frag) (H : Hp) (a : Ad) : Prop := IsD H a ∨ ∃ xs : Prs, H a = some (dicO a xs) ∧ ∀ x ∈ xs, KeyAt K H x.1 x.2.1
theorem isX_at {pins : List (Addr × Obj)} {σ : L2.St} {H : Hp} {s : Shared} {a : Ad} (I : Inv X pins σ H s) (d : IsX X.K H a) : s.TypeIs (.ref a) "dict" ∧ (∀ b, Value.ref a = .ref b → ∃ ob, s.heap.get? b = some ob ∧ ob.dict = none) := by
  rcases d with d | ⟨xs, e, hk⟩
  · obtain ⟨h1, h2, _⟩ := isD_at I d
    exact ⟨h1, h2⟩
  · obtain ⟨_, _, ys, _, dd⟩ := dic_of I e hk
    refine ⟨dd.typeIs, fun b q => ?_⟩
    cases q
    obtain ⟨ob, _, _, h1, h2, _⟩ := dd
    exact ⟨ob, h1, h2.2.1⟩
def tGetX (K : PySem.W.Frag) (td ty tx : TE) : TE := fun σ H Q => td σ H fun x H1 => ∃ a, x = .ref a ∧ IsX K H1 a ∧ ty σ H1 fun y H2 => tx σ H2 fun z H3 => ∃ o, XGet K H3 a y o ∧ Q (o.getD z) H3
theorem pe_getX {o e f : Expr} {apos cpos : Pos} {td ty tx : TE} (hu : X.A.units + 65 < cLine) (ho : PE X o td) (he : PE X e ty) (hf : PE X f tx) (m : M2 X o "get" apos e f cpos) : PE X (.Call (.Attribute o "get" apos) [e, f] [] cpos) (tGetX X.K td ty tx) := by
  refine ⟨fun pins s0 σ H Q I h => ?_⟩
  refine wpAny_Call_method m.base m.few m.line PySem.F.plainAttrs_dict PySem.F.slot_dict_get PySem.F.type_dict_get (thn (ho.run pins s0 σ H _ I h) fun dv sa qa => ?_)
  obtain ⟨x, Ha, Ia, rx, a, rfl, d, qa⟩ := qa
  cases (show dv = Value.ref a from rx)
  obtain ⟨t1, t2⟩ := isX_at Ia d
  refine ⟨t1, t2, ?_⟩
  rw [m.trees]
  refine Calls.callWith_builtin rfl (Calls.evalArgs_plain (Calls.spliced_cons (thn (he.run pins sa σ Ha _ Ia qa) fun kv sb qb => ?_)))
  obtain ⟨y, Hb, Ib, ry, qb⟩ := qb
  refine Calls.spliced_cons (thn (hf.run pins sb σ Hb _ Ib qb) fun ev sc qc => Calls.spliced_nil ?_)
  obtain ⟨z, Hc, Ic, rz, ov, g, qc⟩ := qc
  rcases g with g | g
  · exact d_get2 (by omega) Ic g ry rz fun w' sd Id rw' => ⟨_, Hc, Id, rw', qc⟩
  · exact n_get2 hu Ic g ry rz fun w' sd Id rw' => ⟨_, Hc, Id, rw', qc⟩
end
end Tw
set_option Elab.async false
set_option linter.all false
set_option autoImplicit false
set_option maxRecDepth 100000
/-! TwOps: each operator of the small language lies under the library's rule for it. -/
namespace Tw
open PySem PySem.Spec PyProof.Rows L2
section
variable {K : PySem.W.Frag} {m : Mp} {H : Hp} {S S' : Hs} {z : VV} {Q : VK}
theorem szL_eq : szL = sizeLine := by rw [sizeLine_eq]; rfl
theorem post_mkL {b : Bool} {xs : List VV} {ys : List V} (h : SimH K m H S) (r : Rs K m H xs ys) (e : mkL b xs S = .ok z S') (p : Post K m H z S' Q) :
    ys.length ≤ sizeLine ∧ ∀ q, H q = none → Q (.ref q) (upd H q (.lst ys)) := by
  unfold mkL at e
  split at e
  · rename_i hl
    refine ⟨by rw [← r.length, ← szL_eq]; exact hl, fun q hq => ?_⟩
    cases b with
    | true =>
      cases e
      refine p (m.push q) _ _ (Ext.newM hq) (h.newM hq r) (.ref ?_)
      show (m.ix ++ [q])[S.length]? = some q
      rw [← h.len]
      simp
    | false =>
      cases e
      exact p m _ _ (Ext.new hq) (h.new hq) (.newL h hq r)
  · cases e
theorem post_mkT {xs : List VV} {ys : List V} (h : SimH K m H S) (r : Rs K m H xs ys) (e : mkT xs S = .ok z S') (p : Post K m H z S' Q) :
    ys.length ≤ sizeLine ∧ ∀ q, H q = none → Q (.ref q) (upd H q (.tup ys)) := by
  unfold mkT at e
  split at e
  · rename_i hl
    cases e
    exact ⟨by rw [← r.length, ← szL_eq]; exact hl, fun q hq => p m _ _ (Ext.new hq) (h.new hq) (.newT h hq r)⟩
  · cases e
theorem post_lift {o : Option VV} {v : V} (h : SimH K m H S) (e : lift o S = .ok z S') (p : Post K m H z S' Q) (r : ∀ x, o = some x → R K m H x v) : Q v H := by
  obtain ⟨e1, rfl⟩ := lift_eq_ok e
  exact p.here h (r z e1)
end

/-! ### arithmetic -/
section
variable {X : Cx}
theorem small_iff {i : Int} : small i = true ↔ (-(2 ^ 64) < i ∧ i < 2 ^ 64) := by simp [small]
/-- both are numbers -/
theorem two_ints {K : PySem.W.Frag} {m : Mp} {H : Hp} {x y : VV} {v w : V} {a b : Int} (r : R K m H (.int a) v) (q : R K m H (.int b) w) : v = .int a ∧ w = .int b := by
  cases r; cases q; exact ⟨rfl, rfl⟩
def rBin (K : PySem.W.Frag) (o : Bop) : R2 := match o with
  | .add => fun x y H Q => rI0 (fun i j => .int (i + j)) x y H Q ∨ rCatA K x y H Q ∨ rCat x y H Q
  | .sub => rI0 fun i j => .int (i - j)
  | .mul => fun x y H Q => rI CMul (fun i j => .int (i * j)) x y H Q ∨ rRep x y H Q
  | .fdiv => rI CDivW fun i j => .int (i / j)
  | .mod => rI (fun _ j => 0 < j) fun i j => .int (i % j)
  | .pow => rI CPow fun i j => .int (i ^ j.toNat)
def bopOp : Bop → Operator
  | .add => .Add
  | .sub => .Sub
  | .mul => .Mult
  | .fdiv => .FloorDiv
  | .mod => .Mod
  | .pow => .Pow
theorem opr_bin (o : Bop) : OpR X (binaryOp (bopOp o)) (rBin X.K o) := by
  cases o
  · exact op_add.or (op_catA.or op_cat)
  · exact op_sub
  · exact op_mul.or op_rep
  · exact op_fdivW
  · exact op_mod
  · exact op_pow
theorem log2_64 {j : Int} (h : 0 < j) (h2 : j < 2 ^ 64) : j.natAbs.log2 < 9000 := by
  have : j.natAbs < 2 ^ 64 := by omega
  exact Nat.lt_of_lt_of_le (PySem.Flt.log2_lt_of (by decide) this) (by decide)
theorem R.lst_inv {K : PySem.W.Frag} {m : Mp} {H : Hp} {S : Hs} {x : VV} {v : V} {xs : List VV} (h : SimH K m H S) (r : R K m H x v) (e : seqOf S x = some xs) (n : ∀ t, x ≠ .tup t) : ∃ a ys, v = .ref a ∧ H a = some (.lst ys) ∧ Rs K m H xs ys := by
  cases r <;> simp [seqOf] at e
  · exact absurd rfl (n _)
  · subst e
    rename_i a ys f t
    exact ⟨_, _, rfl, FzL.mk1 (by assumption), by assumption⟩
  · rename_i k a hk
    obtain ⟨ys, h1, h2⟩ := h.list hk e
    exact ⟨a, ys, rfl, h1, h2⟩
where FzL.mk1 {m : Mp} {H : Hp} {a : Ad} {ys : List V} (h : FzL m H a ys) : H a = some (.lst ys) := h.1
theorem sd_bin (K : PySem.W.Frag) (b : Bool) (o : Bop) : Op2 K (binG b o) (rBin K o) := by
  intro m H S x y v w z S' Q h rx ry e p
  unfold binG at e
  split at e
  · -- ints
    rename_i i j
    obtain ⟨rfl, rfl⟩ := two_ints (x := .non) (y := .non) rx ry
    unfold binV at e
    simp only at e
    obtain ⟨e1, rfl⟩ := lift_eq_ok e
    cases o
    · cases e1
      exact .inl ⟨i, j, rfl, rfl, p.here h (.int _)⟩
    · cases e1
      exact ⟨i, j, rfl, rfl, p.here h (.int _)⟩
    · unfold arith at e1
      simp only at e1
      split at e1
      · rename_i hs
        cases e1
        refine .inl ⟨i, j, rfl, rfl, ?_, p.here h (.int _)⟩
        rcases Bool.or_eq_true_iff.mp hs with q | q
        · exact .inl (small_iff.mp q)
        · exact .inr (small_iff.mp q)
      · cases e1
    · unfold arith at e1
      simp only at e1
      split at e1
      · rename_i hs
        cases e1
        exact ⟨i, j, rfl, rfl, ⟨hs.1, log2_64 hs.1 hs.2⟩, p.here h (.int _)⟩
      · cases e1
    · unfold arith at e1
      simp only at e1
      split at e1
      · rename_i hs
        cases e1
        exact ⟨i, j, rfl, rfl, hs, p.here h (.int _)⟩
      · cases e1
    · unfold arith at e1
      simp only at e1
      split at e1
      · rename_i hs
        cases e1
        exact ⟨i, j, rfl, rfl, ⟨hs.1, by omega, hs.2.2⟩, p.here h (.int _)⟩
      · cases e1
  · -- tuples
    rename_i xs ys
    unfold binV at e
    simp only at e
    split at e
    · rename_i ho
      subst ho
      cases rx with
      | tup f t =>
        cases ry with
        | tup f2 t2 =>
          obtain ⟨hz, k⟩ := post_mkT h (t.append t2) e p
          refine .inr (.inl ⟨_, _, _, _, rfl, rfl, f.sq, f2.sq, by rw [List.length_append] at hz; exact hz, ?_⟩)
          unfold mkT at e
          split at e
          · cases e
            refine ⟨fun e1 => p.here h ?_, fun _ e1 => p.here h ?_, fun _ _ q hq => k q hq⟩
            · subst e1
              cases t
              exact R.tup f2 t2
            · subst e1
              cases t2
              rw [List.append_nil]
              exact R.tup f t
          · cases e
    · cases e
  · -- lists
    rename_i n1 n2
    unfold binL at e
    split at e
    · -- a list times a number
      rename_i k
      split at e
      · cases e
      · rename_i hn
        split at e
        · rename_i xs hx
          split at e
          · rename_i hc
            obtain ⟨h1, h2, h3⟩ := hc
            obtain ⟨a, ys, rfl, ha, t⟩ := R.lst_inv h rx hx (fun t q => hn t q)
            cases ry
            obtain ⟨_, kk⟩ := post_mkL h (t.rep k.toNat) e p
            exact .inr ⟨a, k, ys, rfl, rfl, ha, by omega, by omega, by rw [← t.length, ← szL_eq]; exact h3, kk⟩
          · cases e
        · cases e
    · split at e
      · cases e
      · cases e
      · rename_i t1 t2
        split at e
        · rename_i xs ys hx hy
          obtain ⟨a, us, rfl, ha, t⟩ := R.lst_inv h rx hx (fun t q => by first | exact t1 t q | (subst q; simp_all))
          obtain ⟨b2, ws, rfl, hb, t2⟩ := R.lst_inv h ry hy (fun t q => by first | exact t2 t q | (subst q; simp_all))
          obtain ⟨hz, kk⟩ := post_mkL h (t.append t2) e p
          exact .inr (.inr ⟨a, b2, us, ws, rfl, rfl, ha, hb, by rw [List.length_append] at hz; exact hz, kk⟩)
        · cases e
    · cases e
end

/-! ### data -/
section
variable {K : PySem.W.Frag} {m : Mp} {H : Hp} {S : Hs}
theorem DpAll_of {n : Nat} (f : ∀ (x : VV) (v : V) (d : PyData), R K m H x v → toD n S x = some d → Dp K H v d ∧ d.canLay0 = true ∧ d.depth ≤ n) :
    ∀ {xs : List VV} {vs : List V} {ds : List PyData}, Rs K m H xs vs → mapO (toD n S) xs = some ds → DpAll K H vs ds ∧ PyData.canLayAll0 ds = true ∧ PyData.depthAll ds ≤ n
  | [], _, ds, .nil, e => by cases e; exact ⟨.nil, rfl, Nat.zero_le _⟩
  | x :: xs, _, ds, .cons r t, e => by
    unfold mapO at e
    split at e
    · rename_i d ds' e1 e2
      cases e
      obtain ⟨h1, h2, h3⟩ := f x _ d r e1
      obtain ⟨g1, g2, g3⟩ := DpAll_of f t e2
      refine ⟨.cons h1 g1, by simp only [PyData.canLayAll0, h2, g2, Bool.and_self], ?_⟩
      simp only [PyData.depthAll]
      exact Nat.max_le.mpr ⟨h3, g3⟩
    · cases e
theorem toD_ok (h : SimH K m H S) : ∀ (n : Nat) (x : VV) (v : V) (d : PyData), R K m H x v → toD n S x = some d → Dp K H v d ∧ d.canLay0 = true ∧ d.depth ≤ n := by
  have strz : ∀ (n : Nat) (y : Str) (d : PyData), (if PyData.strOk y then some (PyData.str y) else none) = some d → Dp K H (.str y) d ∧ d.canLay0 = true ∧ d.depth ≤ n := fun n y d e => by
    split at e
    · rename_i hs
      cases e
      exact ⟨.str y, by simpa only [PyData.canLay0] using hs, Nat.zero_le _⟩
    · cases e
  have lists : ∀ (n : Nat) (a : Ad) (ys : List V) (ds : List PyData), SqL K H a ys → (DpAll K H ys ds ∧ PyData.canLayAll0 ds = true ∧ PyData.depthAll ds ≤ n) → Dp K H (.ref a) (.list ds) ∧ (PyData.list ds).canLay0 = true ∧ (PyData.list ds).depth ≤ n + 1 := fun n a ys ds q ⟨q1, q2, q3⟩ =>
    ⟨.lst q q1, by simpa only [PyData.canLay0] using q2, by simp only [PyData.depth]; omega⟩
  intro n
  induction n with
  | zero =>
    intro x v d r e
    cases r with
    | non => cases e; exact ⟨.non, rfl, Nat.le_refl _⟩
    | bl b => cases e; exact ⟨.bl b, rfl, Nat.le_refl _⟩
    | int i => cases e; exact ⟨.int i, rfl, Nat.le_refl _⟩
    | str y => exact strz 0 y d e
    | tup f t => cases e
    | lst f t => cases e
    | scr f t => cases e
    | ref hk => cases e
    | dct _ _ _ _ => cases e
    | exc _ _ _ _ _ _ => cases e
  | succ n ih =>
    intro x v d r e
    cases r with
    | non => cases e; exact ⟨.non, rfl, Nat.zero_le _⟩
    | bl b => cases e; exact ⟨.bl b, rfl, Nat.zero_le _⟩
    | int i => cases e; exact ⟨.int i, rfl, Nat.zero_le _⟩
    | str y => exact strz (n + 1) y d e
    | tup f t =>
      obtain ⟨ds, e1, rfl⟩ := Option.map_eq_some_iff.mp e
      obtain ⟨q1, q2, q3⟩ := DpAll_of ih t e1
      exact ⟨.tup f.sq q1, by simpa only [PyData.canLay0] using q2, by simp only [PyData.depth]; omega⟩
    | lst f t =>
      obtain ⟨ds, e1, rfl⟩ := Option.map_eq_some_iff.mp e
      exact lists n _ _ ds f.sq (DpAll_of ih t e1)
    | scr f t => cases e
    | @ref k a hk =>
      have e' : (match kid S k with
        | some xs => (mapO (toD n S) xs).map PyData.list
        | none => none) = some d := e
      split at e'
      · rename_i xs hx
        obtain ⟨ds, e1, rfl⟩ := Option.map_eq_some_iff.mp e'
        obtain ⟨ys, h1, h2⟩ := h.list hk hx
        exact lists n _ _ ds (SqL.of h1) (DpAll_of ih h2 e1)
      · cases e'
    | dct _ _ _ _ => cases e
    | exc _ _ _ _ _ _ => cases e
theorem shaped_of {d : PyData} (h1 : d.canLay0 = true) (h2 : d.depth ≤ 64) : SeqAt.shaped d = true := by
  unfold SeqAt.shaped
  rw [h1, Bool.true_and]
  exact decide_eq_true h2
end

/-! ### comparisons -/
section
variable {X : Cx}
def rInT (K : PySem.W.Frag) (neg : Bool) : R2 := fun x y H Q => ∃ d ds, Dp K H x d ∧ Dp K H y (.tuple ds) ∧ SeqAt.shaped d = true ∧ SeqAt.shaped (.tuple ds) = true ∧ Q (.bl (if neg then !(ds.any fun z => PyData.eqv z d) else ds.any fun z => PyData.eqv z d)) H
theorem op_inT (hu : X.A.units + 65 < cLine) : OpR X (compareOp .In) (rInT X.K false) := by
  intro pins s σ H x y v u Q I rx ry h
  obtain ⟨d, ds, hd, he, sd, se, q⟩ := h
  obtain ⟨as, r1⟩ := Dp.reads I d x v hd rx
  obtain ⟨bs, r2⟩ := Dp.reads I (.tuple ds) y u he ry
  exact SeqAt.in_tuple_reads r2 r1 (SeqAt.canLay_of_shaped se) (SeqAt.canLay_of_shaped sd) (room_in_shaped sd hu) ⟨.bl _, H, I, rfl, q⟩
theorem op_notInT (hu : X.A.units + 65 < cLine) : OpR X (compareOp .NotIn) (rInT X.K true) := by
  intro pins s σ H x y v u Q I rx ry h
  obtain ⟨d, ds, hd, he, sd, se, q⟩ := h
  obtain ⟨as, r1⟩ := Dp.reads I d x v hd rx
  obtain ⟨bs, r2⟩ := Dp.reads I (.tuple ds) y u he ry
  exact SeqAt.notIn_tuple_reads r2 r1 (SeqAt.canLay_of_shaped se) (SeqAt.canLay_of_shaped sd) (room_in_shaped sd hu) ⟨.bl _, H, I, rfl, q⟩
def copOp : Cop → CmpOp
  | .eq => .Eq
  | .ne => .NotEq
  | .lt => .Lt
  | .le => .LtE
  | .gt => .Gt
  | .ge => .GtE
  | .isin => .In
  | .notin => .NotIn
  | .is_ => .Is
  | .isnot => .IsNot
def rCmp (K : PySem.W.Frag) : Cop → R2
  | .eq => fun x y H Q => rEqD K x y H Q ∨ rEq x y H Q
  | .ne => fun x y H Q => rNeD K x y H Q ∨ rNe x y H Q
  | .lt => fun x y H Q => rI0 (fun i j => .bl (decide (i < j))) x y H Q ∨ rLtT K x y H Q
  | .le => rI0 fun i j => .bl (decide (i ≤ j))
  | .gt => rI0 fun i j => .bl (decide (j < i))
  | .ge => rI0 fun i j => .bl (decide (j ≤ i))
  | .isin => fun x y H Q => (rInD K x y H Q ∨ rInT K false x y H Q) ∨ rInX K false x y H Q
  | .notin => fun x y H Q => (rNotInD K x y H Q ∨ rInT K true x y H Q) ∨ rInX K true x y H Q
  | .is_ => fun x y H Q => (y = .non ∧ Q (.bl (decide (x = .non))) H) ∨ rIsB x y H Q
  | .isnot => fun x y H Q => (y = .non ∧ Q (.bl (!decide (x = .non))) H) ∨ rNotB x y H Q
theorem opr_cmp (hu : X.A.units + 65 < cLine) (o : Cop) : OpR X (compareOp (copOp o)) (rCmp X.K o) := by
  cases o
  · exact (op_eqD (by omega)).or op_eq
  · exact (op_neD (by omega)).or op_ne
  · exact op_lt.or (op_ltT (by omega))
  · exact op_le
  · exact op_gt
  · exact op_ge
  · exact ((op_inD hu).or (op_inT hu)).or (op_inX hu)
  · exact ((op_notInD hu).or (op_notInT hu)).or (op_notInX hu)
  · exact op_isN.or op_isBl
  · exact op_notN.or op_notBl
theorem lexLt_eq : ∀ ns ms : List Int, lexLt ns ms = HT.lexLt ns ms
  | [], [] => rfl
  | [], _ :: _ => rfl
  | _ :: _, [] => rfl
  | x :: xs, y :: ys => by
    rw [HT.lexLt_cons, ← lexLt_eq xs ys]
    rfl
theorem sd_eqs {K : PySem.W.Frag} {m : Mp} {H : Hp} {S : Hs} {x y : VV} {v w : V} {b : Bool} (h : SimH K m H S) (rx : R K m H x v) (ry : R K m H y w) (e : eqV S x y = some b) :
    ∃ d e, Dp K H v d ∧ Dp K H w e ∧ SeqAt.shaped d = true ∧ SeqAt.shaped e = true ∧ b = PyData.eqv d e := by
  unfold eqV at e
  split at e
  · rename_i d1 d2 e1 e2
    cases e
    obtain ⟨h1, h2, h3⟩ := toD_ok h _ _ _ _ rx e1
    obtain ⟨g1, g2, g3⟩ := toD_ok h _ _ _ _ ry e2
    have hd : dpt ≤ 64 := by decide
    exact ⟨d1, d2, h1, g1, shaped_of h2 (by omega), shaped_of g2 (by omega), rfl⟩
  · cases e
theorem sd_eqx {K : PySem.W.Frag} {m : Mp} {H : Hp} {S : Hs} {x y : VV} {v w : V} {b : Bool} (h : SimH K m H S) (rx : R K m H x v) (ry : R K m H y w) (e : eqX S x y = some b) :
    (∃ d e, Dp K H v d ∧ Dp K H w e ∧ SeqAt.shaped d = true ∧ SeqAt.shaped e = true ∧ b = PyData.eqv d e) ∨ (scal v w = true ∧ b = decide (v = w)) := by
  unfold eqX at e
  split at e
  · rename_i a c
    cases e
    cases rx
    cases ry
    refine .inr ⟨rfl, ?_⟩
    rw [Bool.eq_iff_iff]
    simp
  · exact .inl (sd_eqs h rx ry e)
theorem sd_in {K : PySem.W.Frag} {m : Mp} {H : Hp} {S : Hs} {x y : VV} {v w : V} {b : Bool} (h : SimH K m H S) (rx : R K m H x v) (ry : R K m H y w) (e : inV S x y = some b) :
    (∃ d ds, Dp K H v d ∧ SeqAt.shaped d = true ∧ (b = ds.any fun z => PyData.eqv z d) ∧ ((Dp K H w (.list ds) ∧ SeqAt.shaped (.list ds) = true) ∨ (Dp K H w (.tuple ds) ∧ SeqAt.shaped (.tuple ds) = true))) ∨ ∃ a r, w = .ref a ∧ XGet K H a v r ∧ b = r.isSome := by
  unfold inV at e
  split at e
  · rename_i ys hy
    split at e
    · rename_i d ds e1 e2
      cases e
      have hd : dpt ≤ 64 := by decide
      obtain ⟨h1, h2, h3⟩ := toD_ok h _ _ _ _ rx e1
      obtain ⟨a, us, rfl, q, t⟩ := seq_rd h ry hy
      obtain ⟨g1, g2, g3⟩ := DpAll_of (toD_ok h _) t e2
      have hd2 : dpt - 1 ≤ 63 := by decide
      refine .inl ⟨d, ds, h1, shaped_of h2 (by omega), rfl, ?_⟩
      rcases q with q | q
      · exact .inl ⟨.lst q g1, shaped_of (by simpa only [PyData.canLay0] using g2) (by simp only [PyData.depth]; omega)⟩
      · exact .inr ⟨.tup q g1, shaped_of (by simpa only [PyData.canLay0] using g2) (by simp only [PyData.depth]; omega)⟩
    · cases e
  · obtain ⟨o, e1, rfl⟩ := Option.map_eq_some_iff.mp e
    obtain ⟨a, r, h1, h2, h3⟩ := get_rd h ry rx e1
    exact .inr ⟨a, r, h1, h2, h3.isSome⟩
theorem sd_cmp (K : PySem.W.Frag) (o : Cop) : Op2 K (gCmp o) (rCmp K o) := by
  intro m H S x y v w z S' Q h rx ry e p
  unfold gCmp at e
  obtain ⟨e1, rfl⟩ := lift_eq_ok e
  obtain ⟨b, e2, rfl⟩ := Option.map_eq_some_iff.mp e1
  have q : Q (.bl b) H := p.here h (.bl b)
  cases o with
  | eq =>
    rcases sd_eqx h rx ry e2 with ⟨d, d', h1, h2, h3, h4, rfl⟩ | ⟨h1, rfl⟩
    · exact .inl ⟨d, d', h1, h2, h3, h4, q⟩
    · exact .inr ⟨h1, q⟩
  | ne =>
    obtain ⟨c, e3, rfl⟩ := Option.map_eq_some_iff.mp e2
    rcases sd_eqx h rx ry e3 with ⟨d, d', h1, h2, h3, h4, rfl⟩ | ⟨h1, rfl⟩
    · exact .inl ⟨d, d', h1, h2, h3, h4, q⟩
    · exact .inr ⟨h1, q⟩
  | lt =>
    have e3 : ltV S' x y = some b := e2
    clear e2
    have e2 := e3
    clear e3
    unfold ltV at e2
    split at e2
    · rename_i i j
      cases e2
      obtain ⟨rfl, rfl⟩ := two_ints (x := .non) (y := .non) rx ry
      exact .inl ⟨i, j, rfl, rfl, q⟩
    · rename_i xs ys
      split at e2
      · rename_i ns ms h1 h2
        cases e2
        cases rx with
        | tup f t =>
          cases ry with
          | tup f2 t2 =>
            cases Rs.ints h1 t
            cases Rs.ints h2 t2
            exact .inr ⟨_, _, ns, ms, rfl, rfl, f.sq, f2.sq, by rw [← lexLt_eq]; exact q⟩
      · cases e2
    · cases e2
  | le =>
    simp only [cmpV] at e2
    split at e2
    · rename_i i j
      cases e2
      obtain ⟨rfl, rfl⟩ := two_ints (x := .non) (y := .non) rx ry
      exact ⟨i, j, rfl, rfl, q⟩
    · cases e2
  | gt =>
    simp only [cmpV] at e2
    split at e2
    · rename_i i j
      cases e2
      obtain ⟨rfl, rfl⟩ := two_ints (x := .non) (y := .non) rx ry
      exact ⟨i, j, rfl, rfl, q⟩
    · cases e2
  | ge =>
    simp only [cmpV] at e2
    split at e2
    · rename_i i j
      cases e2
      obtain ⟨rfl, rfl⟩ := two_ints (x := .non) (y := .non) rx ry
      exact ⟨i, j, rfl, rfl, q⟩
    · cases e2
  | isin =>
    rcases sd_in h rx ry e2 with ⟨d, ds, h1, h2, rfl, q2 | q2⟩ | ⟨a, r, h1, h2, rfl⟩
    · exact .inl (.inl ⟨d, ds, h1, q2.1, h2, q2.2, q⟩)
    · exact .inl (.inr ⟨d, ds, h1, q2.1, h2, q2.2, q⟩)
    · exact .inr ⟨a, r, h1, h2, by rw [show (false != r.isSome) = r.isSome by cases r.isSome <;> rfl]; exact q⟩
  | notin =>
    obtain ⟨c, e3, rfl⟩ := Option.map_eq_some_iff.mp e2
    rcases sd_in h rx ry e3 with ⟨d, ds, h1, h2, rfl, q2 | q2⟩ | ⟨a, r, h1, h2, rfl⟩
    · exact .inl (.inl ⟨d, ds, h1, q2.1, h2, q2.2, q⟩)
    · exact .inl (.inr ⟨d, ds, h1, q2.1, h2, q2.2, q⟩)
    · exact .inr ⟨a, r, h1, h2, by rw [show (true != r.isSome) = !r.isSome by cases r.isSome <;> rfl]; exact q⟩
  | is_ =>
    have e3 : isV x y = some b := e2
    clear e2
    have e2 := e3
    clear e3
    unfold isV at e2
    split at e2
    · rename_i i j
      cases e2
      cases rx
      cases ry
      exact .inr ⟨i, j, rfl, rfl, q⟩
    · cases e2
      cases rx
      cases ry
      exact .inl ⟨rfl, q⟩
    · rename_i n1
      cases e2
      cases ry
      refine .inl ⟨rfl, ?_⟩
      have : decide (v = V.non) = false := by
        cases rx <;> first | rfl | exact absurd rfl n1
      rw [this]
      exact q
    · cases e2
  | isnot =>
    obtain ⟨c, e3, rfl⟩ := Option.map_eq_some_iff.mp e2
    unfold isV at e3
    split at e3
    · rename_i i j
      cases e3
      cases rx
      cases ry
      exact .inr ⟨i, j, rfl, rfl, q⟩
    · cases e3
      cases rx
      cases ry
      exact .inl ⟨rfl, q⟩
    · rename_i n1
      cases e3
      cases ry
      refine .inl ⟨rfl, ?_⟩
      have : decide (v = V.non) = false := by
        cases rx <;> first | rfl | exact absurd rfl n1
      rw [this]
      exact q
    · cases e3
theorem tru_of {K : PySem.W.Frag} {m : Mp} {H : Hp} {S : Hs} {x : VV} {v : V} {b : Bool} (h : SimH K m H S) (r : R K m H x v) (e : trV S x = some b) : TruV K v H b := by
  have em : ∀ {xs : List VV} {ys : List V}, Rs K m H xs ys → (!xs.isEmpty) = !ys.isEmpty := fun t => by cases t <;> rfl
  cases r with
  | non => cases e; rfl
  | bl c => cases e; rfl
  | int i => cases e; rfl
  | str y =>
    have e' : (if y.length ≤ szL then some (y.length != 0) else none) = some b := e
    split at e'
    · rename_i hl
      cases e'
      exact ⟨by rw [← szL_eq]; exact hl, by
        show (y.length != 0) = ((y.length : Int) != 0)
        cases y.length <;> rfl⟩
    · cases e'
  | tup f t =>
    cases e
    exact .inr (.inl ⟨_, f.sq, em t⟩)
  | lst f t =>
    cases e
    exact .inl ⟨_, f.sq, em t⟩
  | scr f t => cases e
  | ref hk =>
    obtain ⟨xs, e1, rfl⟩ := Option.map_eq_some_iff.mp e
    obtain ⟨ys, h1, h2⟩ := h.list hk e1
    exact .inl ⟨_, SqL.of h1, em h2⟩
  | dct _ _ _ _ => cases e
  | exc _ _ _ _ _ _ => cases e
end

/-! ### places, slices -/
section
variable {X : Cx}
theorem sd_neg (K : PySem.W.Frag) : Op1 K gNeg (rU fun i => .int (-i)) := by
  intro m H S x v z S' Q h r e p
  unfold gNeg at e
  obtain ⟨e1, rfl⟩ := lift_eq_ok e
  obtain ⟨i, e2, rfl⟩ := Option.map_eq_some_iff.mp e1
  cases r <;> simp [intOf] at e2
  subst e2
  exact ⟨_, rfl, p.here h (.int _)⟩
theorem natIx_eq (n : Nat) (i : Int) : natIx n i = ixN n i := rfl
def rIdx (K : PySem.W.Frag) : R2 := fun x y H Q => rIx K x y H Q ∨ rItX K x y H Q
theorem ix_all (hu : X.A.units + 65 < cLine) : IxR X (rIdx X.K) := ix_seq.or (ix_X hu)
theorem sd_idx (K : PySem.W.Frag) : Op2 K gIdx (rIdx K) := by
  intro m H S x y v w z S' Q h rx ry e p
  unfold gIdx at e
  split at e
  · rename_i xs e2
    split at e
    · rename_i j e1
      obtain ⟨e3, rfl⟩ := lift_eq_ok e
      obtain ⟨rfl, rfl⟩ : y = .int j ∧ w = .int j := by
        cases ry <;> simp [intOf] at e1
        subst e1
        exact ⟨rfl, rfl⟩
      obtain ⟨a, ys, rfl, q, t⟩ := seq_rd h rx e2
      unfold atV at e3
      obtain ⟨n, hn, hx⟩ := Option.bind_eq_some_iff.mp e3
      obtain ⟨u, hu, ru⟩ := t.get hx
      have ha : atI ys j = some u := by
        unfold atI
        rw [← t.length, ← natIx_eq, hn]
        exact hu
      rcases q with q | q
      · exact .inl (.inl ⟨a, ys, _, u, rfl, rfl, q, ha, p.here h ru⟩)
      · exact .inl (.inr (.inl ⟨a, ys, _, u, rfl, rfl, q, ha, p.here h ru⟩))
    · cases e
  · split at e
    · rename_i o e1
      obtain ⟨e3, rfl⟩ := lift_eq_ok e
      obtain ⟨a, r, rfl, h2, h3⟩ := get_rd h rx ry e1
      subst e3
      cases r with
      | none => exact h3.elim
      | some u => exact .inr ⟨a, u, rfl, h2, p.here h h3⟩
    · cases e
theorem ixB_eq (n d : Nat) (o : Option Int) : ixB n d o = HT.sIx n d o := by
  cases o <;> rfl
theorem cut_rd {K : PySem.W.Frag} {m : Mp} {H : Hp} {xs : List VV} {ys : List V} (t : Rs K m H xs ys) (l u : Option Int) : Rs K m H (cut xs l u) (cutV ys l u) := by
  unfold cut cutV
  rw [ixB_eq, ixB_eq, t.length]
  exact (t.drop _).take _
def rSl (K : PySem.W.Frag) : V → Option Int → Option Int → Hp → VK → Prop := fun x lo hi H Q => rSlL K x lo hi H Q ∨ rSlA K x lo hi H Q
theorem slr_seq : SlR X (rSl X.K) := sl_list.or sl_tupA
theorem sd_sl {K : PySem.W.Frag} {m : Mp} {H : Hp} {S S' : Hs} {b : Bool} {x z : VV} {v : V} {l u : Option Int} {Q : VK} (h : SimH K m H S) (r : R K m H x v) (e : gSl b x l u S = .ok z S') (p : Post K m H z S' Q) : rSl K v l u H Q := by
  unfold gSl at e
  split at e
  · cases r with
    | tup f t =>
      cases e
      rename_i a ys
      have hs := FzT.sq f
      refine .inr ⟨_, _, rfl, hs, fun q => p.here h ?_, fun _ q hq => ?_⟩
      · unfold cut
        rw [ixB_eq, ixB_eq, t.length, q.1, q.2, List.drop_zero, Nat.sub_zero, ← t.length, List.take_length]
        exact .tup f t
      · exact p m _ _ (Ext.new hq) (h.new hq) (.newT h hq (cut_rd t l u))
  · cases r with
    | scr f t => exact .inl ⟨_, _, rfl, f.sq, (post_mkL h (cut_rd t l u) e p).2⟩
  · cases r with
    | lst f t => exact .inl ⟨_, _, rfl, f.sq, (post_mkL h (cut_rd t l u) e p).2⟩
  · split at e
    · rename_i hk
      cases r with
      | ref hr =>
        obtain ⟨ys, h1, h2⟩ := h.list hr hk
        exact .inl ⟨_, _, rfl, SqL.of h1, (post_mkL h (cut_rd h2 l u) e p).2⟩
    · cases e
  · cases e
end

/-! ### built-in functions -/
section
variable {X : Cx} {K : PySem.W.Frag} {m : Mp} {H : Hp} {S : Hs}
theorem Rs.one {x : VV} {vs : List V} (t : Rs K m H [x] vs) : ∃ v, vs = [v] ∧ R K m H x v := by
  cases t with
  | cons r t => cases t; exact ⟨_, rfl, r⟩
theorem Rs.two {x y : VV} {vs : List V} (t : Rs K m H [x, y] vs) : ∃ v w, vs = [v, w] ∧ R K m H x v ∧ R K m H y w := by
  cases t with
  | cons r t =>
    obtain ⟨w, rfl, q⟩ := t.one
    exact ⟨_, _, rfl, r, q⟩
theorem lst_rd {x : VV} {v : V} {xs : List VV} (h : SimH K m H S) (r : R K m H x v) (e : lstOf S x = some xs) : ∃ a ys, v = .ref a ∧ H a = some (.lst ys) ∧ Rs K m H xs ys := by
  cases r <;> simp [lstOf] at e
  · subst e
    rename_i f t
    exact ⟨_, _, rfl, FzL.mk2 (by assumption), by assumption⟩
  · rename_i k a hk
    obtain ⟨ys, h1, h2⟩ := h.list hk e
    exact ⟨a, ys, rfl, h1, h2⟩
where FzL.mk2 {m : Mp} {H : Hp} {a : Ad} {ys : List V} (h : FzL m H a ys) : H a = some (.lst ys) := h.1
theorem ints_rd {x : VV} {v : V} {ns : List Int} (h : SimH K m H S) (r : R K m H x v) (e : seqInts S x = some ns) : ∃ a, v = .ref a ∧ H a = some (.lst (ns.map V.int)) := by
  obtain ⟨xs, e1, e2⟩ := Option.bind_eq_some_iff.mp e
  obtain ⟨a, ys, rfl, ha, t⟩ := lst_rd h r e1
  cases Rs.ints e2 t
  exact ⟨a, rfl, ha⟩
theorem bls_rd {x : VV} {v : V} {ns : List Bool} (h : SimH K m H S) (r : R K m H x v) (e : seqBls S x = some ns) : ∃ a, v = .ref a ∧ H a = some (.lst (ns.map V.bl)) := by
  obtain ⟨xs, e1, e2⟩ := Option.bind_eq_some_iff.mp e
  obtain ⟨a, ys, rfl, ha, t⟩ := lst_rd h r e1
  cases Rs.bls e2 t
  exact ⟨a, rfl, ha⟩
/-- the greatest, the least -/
theorem foldl_max : ∀ (xs : List Int) (a : Int), (xs.foldl (fun a b => if b > a then b else a) a) ∈ a :: xs ∧ ∀ y ∈ a :: xs, y ≤ xs.foldl (fun a b => if b > a then b else a) a
  | [], a => by simp
  | x :: xs, a => by
    obtain ⟨h1, h2⟩ := foldl_max xs (if x > a then x else a)
    refine ⟨?_, fun y hy => ?_⟩
    · show List.foldl _ (if x > a then x else a) xs ∈ _
      rcases List.mem_cons.mp h1 with e | e
      · rw [e]
        split <;> simp
      · simp [e]
    · show y ≤ List.foldl _ (if x > a then x else a) xs
      have h3 := h2 (if x > a then x else a) List.mem_cons_self
      rcases List.mem_cons.mp hy with rfl | hy
      · split at h3 <;> rename_i q
        · rw [if_pos q]; omega
        · rw [if_neg q]; omega
      · rcases List.mem_cons.mp hy with rfl | hy
        · split at h3 <;> rename_i q
          · rw [if_pos q]; omega
          · rw [if_neg q]; omega
        · exact h2 y (List.mem_cons_of_mem _ hy)
theorem foldl_min : ∀ (xs : List Int) (a : Int), (xs.foldl (fun a b => if b < a then b else a) a) ∈ a :: xs ∧ ∀ y ∈ a :: xs, xs.foldl (fun a b => if b < a then b else a) a ≤ y
  | [], a => by simp
  | x :: xs, a => by
    obtain ⟨h1, h2⟩ := foldl_min xs (if x < a then x else a)
    refine ⟨?_, fun y hy => ?_⟩
    · show List.foldl _ (if x < a then x else a) xs ∈ _
      rcases List.mem_cons.mp h1 with e | e
      · rw [e]
        split <;> simp
      · simp [e]
    · show List.foldl _ (if x < a then x else a) xs ≤ y
      have h3 := h2 (if x < a then x else a) List.mem_cons_self
      rcases List.mem_cons.mp hy with rfl | hy
      · split at h3 <;> rename_i q
        · rw [if_pos q]; omega
        · rw [if_neg q]; omega
      · rcases List.mem_cons.mp hy with rfl | hy
        · split at h3 <;> rename_i q
          · rw [if_pos q]; omega
          · rw [if_neg q]; omega
        · exact h2 y (List.mem_cons_of_mem _ hy)
theorem maxI_uniq {ns : List Int} {k n : Int} (e : maxI ns = some k) (h1 : n ∈ ns) (h2 : ∀ y ∈ ns, y ≤ n) : n = k := by
  cases ns with
  | nil => cases h1
  | cons x xs =>
    cases e
    obtain ⟨g1, g2⟩ := foldl_max xs x
    have := h2 _ g1
    have := g2 _ h1
    omega
theorem minI_uniq {ns : List Int} {k n : Int} (e : minI ns = some k) (h1 : n ∈ ns) (h2 : ∀ y ∈ ns, n ≤ y) : n = k := by
  cases ns with
  | nil => cases h1
  | cons x xs =>
    cases e
    obtain ⟨g1, g2⟩ := foldl_min xs x
    have := h2 _ g1
    have := g2 _ h1
    omega
theorem maxI_ne {ns : List Int} {k : Int} (e : maxI ns = some k) : 0 < ns.length := by
  cases ns with
  | nil => cases e
  | cons _ _ => simp
theorem minI_ne {ns : List Int} {k : Int} (e : minI ns = some k) : 0 < ns.length := by
  cases ns with
  | nil => cases e
  | cons _ _ => simp
theorem insI_perm (x : Int) : ∀ xs : List Int, (insI x xs).Perm (x :: xs)
  | [] => List.Perm.refl _
  | y :: ys => by
    unfold insI
    split
    · exact List.Perm.refl _
    · exact ((insI_perm x ys).cons y).trans (List.Perm.swap x y ys)
theorem insI_sorted {x : Int} : ∀ {xs : List Int}, xs.Pairwise (· ≤ ·) → (insI x xs).Pairwise (· ≤ ·)
  | [], _ => by simp [insI]
  | y :: ys, h => by
    unfold insI
    obtain ⟨h1, h2⟩ := List.pairwise_cons.mp h
    split
    · rename_i q
      refine List.pairwise_cons.mpr ⟨fun z hz => ?_, h⟩
      rcases List.mem_cons.mp hz with rfl | hz
      · exact q
      · have := h1 z hz
        omega
    · rename_i q
      refine List.pairwise_cons.mpr ⟨fun z hz => ?_, insI_sorted h2⟩
      rcases List.mem_cons.mp ((insI_perm x ys).mem_iff.mp hz) with rfl | hz
      · omega
      · exact h1 z hz
theorem sortI_perm : ∀ xs : List Int, (sortI xs).Perm xs
  | [] => List.Perm.refl _
  | x :: xs => (insI_perm x _).trans ((sortI_perm xs).cons x)
theorem sortI_sorted : ∀ xs : List Int, (sortI xs).Pairwise (· ≤ ·)
  | [] => List.Pairwise.nil
  | _ :: xs => insI_sorted (sortI_sorted xs)
theorem sorted_uniq : ∀ {xs ys : List Int}, xs.Perm ys → xs.Pairwise (· ≤ ·) → ys.Pairwise (· ≤ ·) → xs = ys
  | [], ys, h, _, _ => by rw [List.nil_perm.mp h]
  | x :: xs, [], h, _, _ => absurd h.length_eq (by simp)
  | x :: xs, y :: ys, h, h1, h2 => by
    obtain ⟨a1, b1⟩ := List.pairwise_cons.mp h1
    obtain ⟨a2, b2⟩ := List.pairwise_cons.mp h2
    have e : x = y := by
      have m1 : x ∈ y :: ys := h.mem_iff.mp List.mem_cons_self
      have m2 : y ∈ x :: xs := h.mem_iff.mpr List.mem_cons_self
      have l1 : y ≤ x := by
        rcases List.mem_cons.mp m1 with e | e
        · omega
        · exact a2 x e
      have l2 : x ≤ y := by
        rcases List.mem_cons.mp m2 with e | e
        · omega
        · exact a1 y e
      omega
    subst e
    rw [sorted_uniq (List.perm_cons x |>.mp h) b1 b2]
end
end Tw
set_option Elab.async false
set_option linter.all false
set_option autoImplicit false
set_option maxRecDepth 100000
/-! TwBi: the built-in functions of the small language lie under the library's rules for them. -/
namespace Tw
open PySem PySem.Spec PyProof.Rows L2

/-! ### repr: how long it is -/
theorem listText_len (ts : List Str) : (listText ts).length ≤ piled ts + 2 := by
  cases ts with
  | nil =>
    show (listText []).length ≤ _
    rw [listText_nil]
    decide
  | cons t ts =>
    have h : listText (t :: ts) = textFrom 1 (("[" : Str) ++ ("" : String) ++ t) ts ++ ("]" : Str) := rfl
    rw [h, strLen_append, textFrom_length_pos ts 1 _ (by decide), piled_cons, strLen_append, strLen_append]
    have e1 : (("[" : String) : Str).length = 1 := rfl
    have e2 : (("" : String) : Str).length = 0 := rfl
    have e3 : (("]" : String) : Str).length = 1 := rfl
    omega
theorem tupleText_len (ts : List Str) : (tupleText ts).length ≤ piled ts + 3 := by
  unfold tupleText
  rw [strLen_append, strLen_append]
  have e1 : (("(" : String) : Str).length = 1 := rfl
  have e2 : ((if (ts.length == 1) = true then ",)" else ")" : String) : Str).length ≤ 2 := by
    split <;> decide
  have e3 : (Str.join ", " ts).length ≤ piled ts := by
    cases ts with
    | nil => decide
    | cons t ts =>
      have := join_length_add (t :: ts) (by simp)
      omega
  omega
mutual
theorem shown_len : ∀ (d : PyData), d.canLay0 = true → wgt d ≤ 400000 → d.showable = true ∧ d.shown.length + 2 ≤ 40 * wgt d
  | .none, _, _ => ⟨rfl, by decide⟩
  | .bool b, _, _ => ⟨rfl, by cases b <;> decide⟩
  | .int i, _, h => by
    unfold wgt at h ⊢
    split at h
    · rename_i hi
      rw [if_pos hi]
      have h1 : i.natAbs.log2 < 1920 := by
        have : i.natAbs < 2 ^ 1920 := Nat.lt_of_lt_of_le hi (by decide +kernel)
        exact PySem.Flt.log2_lt_of (by decide) this
      refine ⟨by simp only [PyData.showable]; exact decide_eq_true h1, ?_⟩
      have h2 := int_text_length_le10 (k := 30) (by decide) hi
      have h3 : (PyData.int i).shown.length = (toString i).length := by
        simp only [PyData.shown]
        exact PySem.ofString_length _
      omega
    · omega
  | .str x, h, _ => by
    refine ⟨rfl, ?_⟩
    have h1 : PyData.strOk x = true := by simpa only [PyData.canLay0] using h
    have h2 : ∀ c ∈ x.cps.toList, c < 16 ^ 8 := fun c hc => by
      have := Array.all_eq_true_iff_forall_mem.mp h1 c (by simpa using hc)
      have := of_decide_eq_true this
      omega
    have h3 := StrLaws.reprText_len x h2
    simp only [PyData.shown, wgt]
    omega
  | .list xs, h, hw => by
    simp only [wgt] at hw ⊢
    obtain ⟨h1, h2⟩ := showns_len xs (by simpa only [PyData.canLay0] using h) (by omega)
    refine ⟨by simpa only [PyData.showable] using h1, ?_⟩
    have := listText_len (PyData.shownAll xs)
    simp only [PyData.shown]
    omega
  | .tuple xs, h, hw => by
    simp only [wgt] at hw ⊢
    obtain ⟨h1, h2⟩ := showns_len xs (by simpa only [PyData.canLay0] using h) (by omega)
    refine ⟨by simpa only [PyData.showable] using h1, ?_⟩
    have := tupleText_len (PyData.shownAll xs)
    simp only [PyData.shown]
    omega
  | .dict _, h, _ => by simp [PyData.canLay0] at h
theorem showns_len : ∀ (ds : List PyData), PyData.canLayAll0 ds = true → wgt.wgts ds ≤ 400000 → PyData.showableAll ds = true ∧ piled (PyData.shownAll ds) ≤ 40 * wgt.wgts ds
  | [], _, _ => ⟨rfl, by simp [PyData.shownAll, piled_nil]⟩
  | d :: ds, h, hw => by
    simp only [wgt.wgts] at hw ⊢
    have h' : d.canLay0 = true ∧ PyData.canLayAll0 ds = true := by simpa [PyData.canLayAll0] using h
    obtain ⟨a1, a2⟩ := shown_len d h'.1 (by omega)
    obtain ⟨b1, b2⟩ := showns_len ds h'.2 (by omega)
    refine ⟨by simp only [PyData.showableAll, a1, b1, Bool.and_self], ?_⟩
    simp only [PyData.shownAll, piled_cons]
    omega
end

section
variable {X : Cx}
/-- repr of data -/
def rRepr (K : PySem.W.Frag) : List V → Hp → VK → Prop := fun vs H Q => ∃ x d, vs = [x] ∧ Dp K H x d ∧ d.canLay0 = true ∧ d.depth ≤ 64 ∧ wgt d ≤ 400000 ∧ Q (.str d.shown) H
theorem call_reprD (hg : X.A.guards = some []) (hu : X.A.units + 66 < cLine) : CallR X (.builtin "repr") (rRepr X.K) := by
  intro pins s σ H xs us Q I r h
  obtain ⟨x, d, rfl, hd, hc, hp, hw, q⟩ := h
  obtain ⟨u, rfl, ru⟩ := vals1 r
  obtain ⟨hs, hl⟩ := shown_len d hc hw
  have hz : d.shown.length ≤ sizeLine := by rw [sizeLine_eq]; omega
  obtain ⟨as, rd⟩ := Dp.reads I d x u hd ru
  cases hd with
  | non =>
    cases ru
    exact PySem.P.repr_of_none ⟨.str _, H, I.tok _, ⟨_, rfl⟩, q⟩
  | bl b =>
    cases ru
    exact PySem.P.repr_of_bool ⟨.str _, H, I.tok _, ⟨_, rfl⟩, by simpa only [PyData.shown] using q⟩
  | int i =>
    obtain ⟨t, rfl⟩ := ru
    exact PySem.P.repr_of_int (of_decide_eq_true (by simpa only [PyData.showable] using hs)) ⟨.str _, H, I.tok _, ⟨_, rfl⟩, by simpa only [PyData.shown] using q⟩
  | str y =>
    obtain ⟨t, rfl⟩ := ru
    exact PySem.P.repr_of_str ⟨.str _, H, I.tok _, ⟨_, rfl⟩, by simpa only [PyData.shown] using q⟩ (by simpa only [PyData.shown] using hz)
  | lst h1 h2 =>
    cases ru
    refine repr_of_reads' rd hs (PyData.noDict_hsm (PyData.hasDict_of_canLay _ hc)) hg (by omega) (fun _ _ e => e) (fun h' u tk hk => ?_) hz
    exact ⟨.str _, H, I.kept hk, ⟨_, rfl⟩, q⟩
  | tup h1 h2 =>
    cases ru
    refine repr_of_reads' rd hs (PyData.noDict_hsm (PyData.hasDict_of_canLay _ hc)) hg (by omega) (fun _ _ e => e) (fun h' u tk hk => ?_) hz
    exact ⟨.str _, H, I.kept hk, ⟨_, rfl⟩, q⟩

/-! ### each built-in function -/
def biVal : Bi → Value
  | .len => .builtin "len"
  | .abs => .builtin "abs"
  | .sum => .builtin "sum"
  | .all => .builtin "all"
  | .any => .builtin "any"
  | .max => .builtin "max"
  | .min => .builtin "min"
  | .max2 => .builtin "max"
  | .min2 => .builtin "min"
  | .sorted => .builtin "sorted"
  | .int => .type "int"
  | .repr => .builtin "repr"
  | .tuple => .type "tuple"
  | .list => .type "list"
  | .isinst _ => .builtin "isinstance"
  | _ => .none
/-- those that are called plainly -/
def biPlain : Bi → Bool
  | .len | .abs | .sum | .all | .any | .max | .min | .max2 | .min2 | .sorted | .int | .repr | .tuple | .list => true
  | _ => false
structure XRoom (X : Cx) : Prop where
  calm : X.calm = true
  guards : X.A.guards = some []
  units : X.A.units + 100 < cLine
theorem bi_ok (xr : XRoom X) (b : Bi) (hb : biPlain b = true) (m : Bool) : ∃ r, CallR X (biVal b) r ∧ OpL X.K (biV m b) r := by
  have hu := xr.units
  cases b <;> try (exact absurd hb Bool.false_ne_true)
  · -- len
    refine ⟨_, call_len_seq.or call_len_str, fun m0 H S vs ws z S' Q h r e p => ?_⟩
    unfold biV at e
    split at e <;> first | contradiction | skip
    rename_i v hb _
    obtain ⟨w, rfl, rr⟩ := r.one
    split at e
    · split at e
      · rename_i x hl
        cases e
        cases rr
        exact .inr ⟨_, rfl, by rw [← szL_eq]; exact hl, p.here h (.int _)⟩
      · cases e
    · obtain ⟨e1, rfl⟩ := lift_eq_ok e
      obtain ⟨xs, e2, rfl⟩ := Option.map_eq_some_iff.mp e1
      obtain ⟨a, ys, rfl, q, t⟩ := seq_rd h rr e2
      exact .inl ⟨a, ys, rfl, q, by rw [← t.length]; exact p.here h (.int _)⟩
  · -- abs
    refine ⟨_, call_abs, fun m0 H S vs ws z S' Q h r e p => ?_⟩
    unfold biV at e
    split at e <;> first | contradiction | skip
    obtain ⟨w, rfl, rr⟩ := r.one
    cases e
    cases rr
    exact ⟨_, rfl, p.here h (.int _)⟩
  · -- sum
    refine ⟨_, cr_sum xr.calm, fun m0 H S vs ws z S' Q h r e p => ?_⟩
    unfold biV at e
    split at e <;> first | contradiction | skip
    obtain ⟨w, rfl, rr⟩ := r.one
    obtain ⟨e1, rfl⟩ := lift_eq_ok e
    obtain ⟨ns, e2, rfl⟩ := Option.map_eq_some_iff.mp e1
    obtain ⟨a, rfl, q⟩ := ints_rd h rr e2
    exact ⟨a, ns, rfl, SqL.of q, p.here h (.int _)⟩
  · -- all
    refine ⟨_, cr_all xr.calm, fun m0 H S vs ws z S' Q h r e p => ?_⟩
    unfold biV at e
    split at e <;> first | contradiction | skip
    obtain ⟨w, rfl, rr⟩ := r.one
    obtain ⟨e1, rfl⟩ := lift_eq_ok e
    obtain ⟨ns, e2, rfl⟩ := Option.map_eq_some_iff.mp e1
    obtain ⟨a, rfl, q⟩ := bls_rd h rr e2
    exact ⟨a, ns, rfl, SqL.of q, p.here h (.bl _)⟩
  · -- any
    refine ⟨_, cr_any xr.calm, fun m0 H S vs ws z S' Q h r e p => ?_⟩
    unfold biV at e
    split at e <;> first | contradiction | skip
    obtain ⟨w, rfl, rr⟩ := r.one
    obtain ⟨e1, rfl⟩ := lift_eq_ok e
    obtain ⟨ns, e2, rfl⟩ := Option.map_eq_some_iff.mp e1
    obtain ⟨a, rfl, q⟩ := bls_rd h rr e2
    exact ⟨a, ns, rfl, SqL.of q, p.here h (.bl _)⟩
  · -- max
    refine ⟨_, cr_max xr.calm, fun m0 H S vs ws z S' Q h r e p => ?_⟩
    unfold biV at e
    split at e <;> first | contradiction | skip
    obtain ⟨w, rfl, rr⟩ := r.one
    obtain ⟨e1, rfl⟩ := lift_eq_ok e
    obtain ⟨k, e2, rfl⟩ := Option.map_eq_some_iff.mp e1
    obtain ⟨ns, e3, e4⟩ := Option.bind_eq_some_iff.mp e2
    obtain ⟨a, rfl, q⟩ := ints_rd h rr e3
    exact ⟨a, ns, rfl, SqL.of q, maxI_ne e4, fun n h1 h2 => by rw [maxI_uniq e4 h1 h2]; exact p.here h (.int _)⟩
  · -- min
    refine ⟨_, cr_min xr.calm, fun m0 H S vs ws z S' Q h r e p => ?_⟩
    unfold biV at e
    split at e <;> first | contradiction | skip
    obtain ⟨w, rfl, rr⟩ := r.one
    obtain ⟨e1, rfl⟩ := lift_eq_ok e
    obtain ⟨k, e2, rfl⟩ := Option.map_eq_some_iff.mp e1
    obtain ⟨ns, e3, e4⟩ := Option.bind_eq_some_iff.mp e2
    obtain ⟨a, rfl, q⟩ := ints_rd h rr e3
    exact ⟨a, ns, rfl, SqL.of q, minI_ne e4, fun n h1 h2 => by rw [minI_uniq e4 h1 h2]; exact p.here h (.int _)⟩
  · -- max2
    refine ⟨_, call_max2 xr.calm, fun m0 H S vs ws z S' Q h r e p => ?_⟩
    unfold biV at e
    split at e <;> first | contradiction | skip
    obtain ⟨v, w, rfl, r1, r2⟩ := r.two
    cases e
    cases r1
    cases r2
    exact ⟨_, _, rfl, p.here h (.int _)⟩
  · -- min2
    refine ⟨_, call_min2 xr.calm, fun m0 H S vs ws z S' Q h r e p => ?_⟩
    unfold biV at e
    split at e <;> first | contradiction | skip
    obtain ⟨v, w, rfl, r1, r2⟩ := r.two
    cases e
    cases r1
    cases r2
    exact ⟨_, _, rfl, p.here h (.int _)⟩
  · -- sorted
    refine ⟨_, cr_sortedI, fun m0 H S vs ws z S' Q h r e p => ?_⟩
    unfold biV at e
    split at e <;> first | contradiction | skip
    obtain ⟨w, rfl, rr⟩ := r.one
    split at e
    · rename_i ns e2
      obtain ⟨a, rfl, q⟩ := ints_rd h rr e2
      refine ⟨a, ns, rfl, SqL.of q, fun ns' q h1 h2 h3 => ?_⟩
      obtain rfl := sorted_uniq (h1.trans (sortI_perm ns).symm) h2 (sortI_sorted ns)
      exact (post_mkL h Rs.of_ints e p).2 q h3
    · cases e
  · -- int
    refine ⟨_, call_int1, fun m0 H S vs ws z S' Q h r e p => ?_⟩
    unfold biV at e
    split at e <;> first | contradiction | skip
    · obtain ⟨w, rfl, rr⟩ := r.one
      cases e
      cases rr
      exact .inl ⟨_, rfl, p.here h (.int _)⟩
    · obtain ⟨w, rfl, rr⟩ := r.one
      cases e
      cases rr
      exact .inr ⟨_, rfl, p.here h (.int _)⟩
  · -- repr
    refine ⟨_, call_reprD xr.guards (by omega), fun m0 H S vs ws z S' Q h r e p => ?_⟩
    unfold biV at e
    split at e <;> first | contradiction | skip
    obtain ⟨w, rfl, rr⟩ := r.one
    obtain ⟨e1, rfl⟩ := lift_eq_ok e
    obtain ⟨k, e2, rfl⟩ := Option.map_eq_some_iff.mp e1
    unfold reprV at e2
    split at e2
    · rename_i d e3
      split at e2
      · rename_i hw
        cases e2
        obtain ⟨h1, h2, h3⟩ := toD_ok h _ _ _ _ rr e3
        have hd : dpt ≤ 64 := by decide
        exact ⟨w, d, rfl, h1, h2, by omega, hw, p.here h (.str _)⟩
      · cases e2
    · cases e2
  · -- tuple
    refine ⟨_, call_tuple_of, fun m0 H S vs ws z S' Q h r e p => ?_⟩
    unfold biV at e
    split at e <;> first | contradiction | skip
    obtain ⟨w, rfl, rr⟩ := r.one
    split at e
    · rename_i xs e2
      cases rr <;> simp [seqOf] at e2
      · subst e2
        rename_i f t
        refine ⟨_, _, rfl, .inr ⟨FzT.sq (by assumption), ?_⟩⟩
        unfold mkT at e
        split at e
        · cases e
          exact p.here h (.tup (by assumption) (by assumption))
        · cases e
      · subst e2
        exact ⟨_, _, rfl, .inl ⟨FzL.sq (by assumption), (post_mkT h (by assumption) e p).2⟩⟩
      · rename_i k hk
        obtain ⟨us, h1, t⟩ := h.list hk e2
        exact ⟨_, _, rfl, .inl ⟨SqL.of h1, (post_mkT h t e p).2⟩⟩
    · cases e
  · -- list
    refine ⟨_, call_list_of, fun m0 H S vs ws z S' Q h r e p => ?_⟩
    unfold biV at e
    split at e <;> first | contradiction | skip
    obtain ⟨w, rfl, rr⟩ := r.one
    split at e
    · rename_i xs e2
      obtain ⟨a, ys, rfl, q, t⟩ := seq_rd h rr e2
      exact ⟨a, ys, rfl, q, (post_mkL h t e p).2⟩
    · cases e
end
end Tw
set_option Elab.async false
set_option linter.all false
set_option autoImplicit false
set_option maxRecDepth 100000
/-! TwCall: a def's promise (with no guard running), how arguments come to parameters, calls. -/
namespace Tw
open PySem PySem.Spec PyProof.Rows L2
theorem forIn_yield {α β : Type} (f : α → β → Sem (ForInStep β)) (g : β → α → β) (P : α → β → Prop) (hf : ∀ a b, P a b → f a b = pure (.yield (g b a))) :
    ∀ (l : List α) (b : β), (∀ i a, l[i]? = some a → P a ((l.take i).foldl g b)) → forIn l b f = pure (l.foldl g b)
  | [], b, _ => by rw [List.forIn_nil]; rfl
  | a :: l, b, h => by
    rw [List.forIn_cons, hf a b (h 0 a rfl)]
    show forIn l (g b a) f = _
    rw [forIn_yield f g P hf l (g b a) fun i c hc => h (i + 1) c hc]
    rfl
theorem foldl_app {κ : Type} : ∀ (l : List κ) (b : List κ × List κ), l.foldl (fun b a => (b.1 ++ [a], b.2)) b = (b.1 ++ l, b.2)
  | [], b => by simp
  | a :: l, b => by
    show l.foldl _ (b.1 ++ [a], b.2) = _
    rw [foldl_app l]
    simp
theorem bind_kw (x qual : Str) (as : List Arg) (body : List Stmt) (scope : Scope) (kV doc pm : Value) (an : Option Addr) (cdv ct : Value) (us : List Value) (kws : List (Str × Value))
    (hn : us.length ≤ as.length) (hk : ∀ (i : Nat) k, kws[i]? = some k → (as.map (·.arg)).contains k.1 = true ∧ (((as.map (·.arg)).zip us ++ kws.take i).lookup k.1).isSome = false)
    (hall : ∀ p ∈ as.map (·.arg), (((as.map (·.arg)).zip us ++ kws).lookup p).isSome = true) (dfs : List Expr) (kwd : List (Option Expr)) :
    bindArgs (PySem.W.fnOf x qual { posonlyargs := [], args := as, vararg := none, kwonlyargs := [], kw_defaults := kwd, kwarg := none, defaults := dfs } body scope .none kV doc pm an cdv ct) ⟨us, kws⟩ =
      pure ((as.map (·.arg)).filterMap fun n => (((as.map (·.arg)).zip us ++ kws).lookup n).map (n, ·)) := by
  simp only [bindArgs, PySem.W.fnOf, List.map_nil, List.nil_append, List.append_nil]
  rw [forIn_yield _ (fun (b : List (Str × Value) × List (Str × Value)) a => (b.1 ++ [a], b.2)) (fun k b => (as.map (·.arg)).contains k.1 = true ∧ (b.1.lookup k.1).isSome = false) ?_ kws _ ?_]
  · rw [foldl_app]
    have h2 : ((as.map (·.arg)).take (as.map (·.arg)).length).filter (fun n => (((as.map (·.arg)).zip us ++ kws).lookup n).isNone) = [] := by
      rw [List.take_length]
      refine List.filter_eq_nil_iff.mpr fun p hp => ?_
      have := hall p hp
      cases h : ((as.map (·.arg)).zip us ++ kws).lookup p with
      | none => rw [h] at this; cases this
      | some _ => simp
    simp only [pure_bind]
    show (do
      let __do_lift ← (pure none : Sem (Option (Array Value)))
      _) = _
    simp only [pure_bind, Option.getD_none, List.length_nil, Nat.sub_zero, List.drop_nil, h2]
    simp
    intro h
    omega
  · intro a b h
    simp only [h.1, h.2, Bool.true_or, if_true, Bool.false_eq_true, if_false]
  · intro i a ha
    rw [foldl_app]
    exact hk i a ha

/-- a def's function object, with plain parameters -/
def FdOk (fd : FuncData) (ps : List Str) : Prop := ∃ (x qual : Str) (as : List Arg) (kwd : List (Option Expr)) (dfs : List Expr) (body : List Stmt) (scope : Scope) (kV doc pm : Value) (an : Option Addr) (cdv ct : Value),
  fd = PySem.W.fnOf x qual { posonlyargs := [], args := as, vararg := none, kwonlyargs := [], kw_defaults := kwd, kwarg := none, defaults := dfs } body scope .none kV doc pm an cdv ct ∧ as.map (·.arg) = ps
theorem lookup_zip {α : Type} : ∀ {ns : List Str} {vs : List α} (_ : ns.Nodup) (_ : ns.length = vs.length) {i : Nat} {n : Str}, ns[i]? = some n → (ns.zip vs).lookup n = vs[i]?
  | [], _, _, _, _, _, h => by simp at h
  | n :: ns, [], _, e, _, _, _ => by simp at e
  | n :: ns, v :: vs, nd, e, 0, m, h => by
    simp at h
    subst h
    simp [List.lookup_cons]
  | n :: ns, v :: vs, nd, e, i + 1, m, h => by
    have nd' := List.nodup_cons.mp nd
    have h' : ns[i]? = some m := by simpa using h
    have hne : (m == n) = false := by
      refine beq_eq_false_iff_ne.mpr fun q => ?_
      exact nd'.1 (q ▸ List.mem_of_getElem? h')
    show List.lookup m ((n, v) :: ns.zip vs) = _
    rw [List.lookup_cons, hne]
    simpa using lookup_zip nd'.2 (by simpa using e) h'
theorem lookup_zip_none {α : Type} : ∀ {ns : List Str} {vs : List α} {n : Str}, n ∉ ns → (ns.zip vs).lookup n = none
  | [], _, _, _ => rfl
  | _ :: _, [], _, _ => rfl
  | m :: ns, v :: vs, n, h => by
    have h' : n ≠ m ∧ n ∉ ns := by simpa only [List.mem_cons, not_or] using h
    show List.lookup n ((m, v) :: ns.zip vs) = _
    rw [List.lookup_cons, beq_eq_false_iff_ne.mpr h'.1]
    exact lookup_zip_none h'.2
/-- in which order the values given come to the parameters -/
def permOf (ps : List Str) (np : Nat) (ks : List Str) : Option (List Nat) :=
  if np ≤ ps.length ∧ (ps.take np ++ ks).Nodup ∧ ps.Nodup ∧ (ps.take np ++ ks).length = ps.length ∧ (ps.all fun p => (ps.take np ++ ks).contains p) = true ∧ (ks.all fun k => ps.contains k) = true then some (ps.map fun p => (ps.take np ++ ks).idxOf p) else none
def pick {α : Type} (perm : List Nat) (xs : List α) : List α := perm.filterMap fun i => xs[i]?
theorem zip_take {α β : Type} : ∀ (xs : List α) (ys : List β), xs.zip ys = (xs.take ys.length).zip ys
  | [], _ => by simp
  | _ :: _, [] => by simp
  | x :: xs, y :: ys => by simp [zip_take xs ys]
theorem fm_congr {α β : Type} {f g : α → Option β} : ∀ {l : List α}, (∀ a ∈ l, f a = g a) → l.filterMap f = l.filterMap g
  | [], _ => rfl
  | a :: l, h => by
    rw [List.filterMap_cons, List.filterMap_cons, h a List.mem_cons_self, fm_congr fun b hb => h b (List.mem_cons_of_mem _ hb)]
theorem take_zip' {α β : Type} : ∀ (xs : List α) (ys : List β) (n : Nat), (xs.zip ys).take n = (xs.take n).zip (ys.take n)
  | _, _, 0 => by simp
  | [], _, _ + 1 => by simp
  | _ :: _, [], _ + 1 => by simp
  | x :: xs, y :: ys, n + 1 => by simp [take_zip' xs ys n]
theorem filterMap_zip {α : Type} {f : Str → Option α} : ∀ {ps : List Str}, (∀ p ∈ ps, (f p).isSome = true) → ps.filterMap (fun n => (f n).map (n, ·)) = ps.zip (ps.filterMap f)
  | [], _ => rfl
  | p :: ps, h => by
    have h1 := h p List.mem_cons_self
    cases e : f p with
    | none => rw [e] at h1; cases h1
    | some v =>
      rw [List.filterMap_cons, List.filterMap_cons, e]
      show (p, v) :: ps.filterMap _ = (p, v) :: ps.zip (ps.filterMap f)
      rw [filterMap_zip fun q hq => h q (List.mem_cons_of_mem _ hq)]
theorem binds_kw {s : Shared} {fd : FuncData} {ps ks : List Str} {perm : List Nat} {us ws : List Value} (F : FdOk fd ps) (hp : permOf ps us.length ks = some perm) (hw : ws.length = ks.length) :
    BindsTo s fd ⟨us, ks.zip ws⟩ (ps.zip (pick perm (us ++ ws))) := by
  obtain ⟨x, qual, as, kwd, dfs, body, scope, kV, doc, pm, an, cdv, ct, rfl, rfl⟩ := F
  unfold permOf at hp
  split at hp
  · rename_i hc
    obtain ⟨c1, c2, c3, c4, c5, c6⟩ := hc
    cases hp
    have ez : (as.map (·.arg)).zip us ++ ks.zip ws = ((as.map (·.arg)).take us.length ++ ks).zip (us ++ ws) := by
      rw [zip_take, List.zip_append (by rw [List.length_take]; omega)]
    have el : ((as.map (·.arg)).take us.length ++ ks).length = (us ++ ws).length := by
      rw [List.length_append, List.length_append, List.length_take, hw]
      omega
    have look : ∀ p ∈ as.map (·.arg), ((as.map (·.arg)).zip us ++ ks.zip ws).lookup p = (us ++ ws)[((as.map (·.arg)).take us.length ++ ks).idxOf p]? := fun p hpm => by
      rw [ez]
      refine lookup_zip c2 el ?_
      have hm : p ∈ (as.map (·.arg)).take us.length ++ ks := by simpa using List.all_eq_true.mp c5 p hpm
      have := List.idxOf_lt_length_of_mem hm
      rw [List.getElem?_eq_getElem this, List.getElem_idxOf this]
    have some_ : ∀ p ∈ as.map (·.arg), (((as.map (·.arg)).zip us ++ ks.zip ws).lookup p).isSome = true := fun p hpm => by
      have hm : p ∈ (as.map (·.arg)).take us.length ++ ks := by simpa using List.all_eq_true.mp c5 p hpm
      have hlt := List.idxOf_lt_length_of_mem hm
      rw [look p hpm, List.getElem?_eq_getElem (by rw [← el]; exact hlt)]
      rfl
    refine .of_eq ?_
    rw [bind_kw x qual as body scope kV doc pm an cdv ct us (ks.zip ws) (by rw [List.length_map] at c1; exact c1) ?_ some_ dfs kwd, filterMap_zip some_]
    · congr 2
      refine (fm_congr fun p hpm => look p hpm).trans ?_
      exact (List.filterMap_map (f := fun p => List.idxOf p (List.take us.length (List.map (fun x => x.arg) as) ++ ks)) (g := fun i => (us ++ ws)[i]?)).symm
    · intro i k hk
      obtain ⟨hi, hk'⟩ := List.getElem?_eq_some_iff.mp hk
      have hik : i < ks.length := by rw [List.length_zip] at hi; omega
      have hiw : i < ws.length := by omega
      rw [List.getElem_zip] at hk'
      subst hk'
      have hkm : ks[i] ∈ ks := List.getElem_mem hik
      refine ⟨by simpa using List.all_eq_true.mp c6 _ hkm, ?_⟩
      have nd := List.nodup_append.mp c2
      have e1 : (as.map (·.arg)).zip us ++ (ks.zip ws).take i = ((as.map (·.arg)).take us.length ++ ks.take i).zip (us ++ ws.take i) := by
        rw [zip_take, List.zip_append (by rw [List.length_take]; omega), take_zip']
      show (List.lookup ks[i] _).isSome = false
      rw [e1, lookup_zip_none]
      · rfl
      · intro hm
        rcases List.mem_append.mp hm with q | q
        · exact nd.2.2 _ q _ hkm rfl
        · obtain ⟨j, hj⟩ := List.mem_iff_getElem?.mp q
          rw [List.getElem?_take] at hj
          split at hj
          · rename_i hji
            have := nodup_ix nd.2.1 hj (List.getElem?_eq_getElem hik)
            omega
          · cases hj
  · cases hp
theorem pick_take {α : Type} (xs : List α) : ∀ n : Nat, pick (List.range n) xs = xs.take n
  | 0 => by simp [pick]
  | n + 1 => by
    have ih := pick_take xs n
    unfold pick at ih ⊢
    rw [List.range_succ, List.filterMap_append, ih, List.take_add_one]
    cases h : xs[n]? <;> simp [h]

/-! ### promises -/
/-- a def at f keeps the promise sp, where no guard runs -/
structure FnG (P : Program) (w : World) (K : PySem.W.Frag) (mg : Str → Option Value) (base : Heap) (CX : CXT) (k : Nat) (f : Addr) (fd : FuncData) (ps : List Str) (sp : Sp) : Prop where
  len : ∀ vs H Q E, sp vs H Q E → vs.length = ps.length
  run : ∀ (A : Around) (outer : List Env) (s : Shared) (H : Hp) (args : Args) (us : List Value) (vs : List V) (Q : VK) (E : XK), Room k A → A.guards = some [] → Env0 P w K mg base A outer s H →
    BindsTo s fd args (ps.zip us) → Vals vs us → sp vs H Q E → codeAny (model P w) A (.call (.ref f) args) (CR CX outer P w H s Q E) s
theorem guards_deeper {A : Around} (h : A.guards = some []) (env : Env) : (A.deeper env).guards = some [] := h
section
variable {P : Program} {w : World} {K : PySem.W.Frag} {mg : Str → Option Value} {base : Heap} {CX : CXT} {k : Nat} {f : Addr} {qual : Str} {scope : Scope} {N ps : List Str} {sp : Sp}
/-- a def's body keeps the promise -/
theorem fnG_of {name : Str} {params : Arguments} {body : List Stmt} {dV kV doc pm cdv ct oc : Value} {an od : Option Addr} {osl : Array (Option Value)}
    (lk : K.lookup f = some ⟨oc, od, .func (PySem.W.fnOf name qual params body scope dV kV doc pm an cdv ct), osl⟩) (hcd : PySem.W.codeIn K cdv qual = true) (S : FnScope N ps scope)
    (len : ∀ vs H Q E, sp vs H Q E → vs.length = ps.length)
    (hb : ∀ (A : Around) (outer : List Env) (s : Shared) (H : Hp) (vs : List V) (Q : VK) (E : XK), Room k (A.deeper (envOfC qual scope s.heap.objs.size f cdv)) → A.guards = some [] → sp vs H Q E →
      ∃ t, PSs (cxOf CX P w K mg base N qual scope f cdv A outer s H E) body t ∧ t { nx := fun _ H' => Q .non H', rt := Q } (start N vs) H) :
    FnG P w K mg base CX (k + 1) f (PySem.W.fnOf name qual params body scope dV kV doc pm an cdv ct) ps sp := by
  refine ⟨len, fun A outer s H args us vs Q E hr hg e0 hbind r hsp => ?_⟩
  have hroom := hr.deeper (envOfC qual scope s.heap.objs.size f cdv)
  obtain ⟨t, ht, hq⟩ := hb A outer s H vs Q E hroom hg hsp
  -- the library's own rule, at this one call
  let sp1 : Sp := fun vs' H' Q' E' => vs'.length = ps.length ∧ ∃ A', A' = A ∧ vs' = vs ∧ H' = H ∧ Q' = Q ∧ E' = E
  have KX : K.In s.heap := e0.mod.kin.keeps fun b o e => (e0.bs b o e).1
  have lim : s.heap.NoLimit := e0.mod.nolimit.keeps fun b o e => (e0.bs b o e).1
  refine codeAny_call_function hr.depth (KX _ _ lk) rfl S.co S.gen rfl (PySem.W.codeRec_of KX hcd) (hbind _ _ _ _ ?_)
  have kinds : ∀ y ∈ ps.zip us, scope.names.lookup y.1 = some .local ∨ (scope.names.lookup y.1 = some .cell ∧ ((cellsFrom (s.heap.objs.size + 1) scope.names []).lookup y.1).isSome = true) := by
    rintro ⟨n, v⟩ hy
    have hn : n ∈ ps := (List.of_mem_zip hy).1
    rcases S.par n hn with q | q
    · exact Or.inl q
    · exact Or.inr ⟨q, PySem.W.cellsFrom_some _ _ _ (Or.inl q)⟩
  refine wpAny_newFunctionEnv_cells S.kind kinds fun env he s1 x => ?_
  cases he
  refine ⟨lim.keeps x.toInCall.keep, codeAny_func ?_⟩
  have I := inv_start (CX := CX) (E := E) S hr.hd e0 (len _ _ _ _ hsp) r x
  refine wpAny_mono (ht.run [] s1 (start N vs) H _ I hq) ?_ fun _ _ z => z
  intro fl s' hs
  cases fl with
  | ret u =>
    obtain ⟨v, σ', H', J, rv, q⟩ := hs
    exact ⟨v, H', J.os, J.bare, J.base, J.hok, rv, q⟩
  | next =>
    obtain ⟨σ', H', J, q⟩ := hs
    exact ⟨V.non, H', J.os, J.bare, J.base, J.hok, rfl, q⟩
  | brk => obtain ⟨_, _, _, q⟩ := hs; exact q.elim
  | cont => obtain ⟨_, _, _, q⟩ := hs; exact q.elim
end
section
variable {X : Cx} {CX : CXT} {k : Nat} {f : Addr} {fd : FuncData} {ps ks : List Str} {perm : List Nat} {sp : Sp} {E : XK} {x : Str} {p pos : Pos} {e : Expr} {es : List Expr} {kws : List Keyword} {t tk : TA}
theorem run_kw {pins : List (Addr × Obj)} {σ : L2.St} {H : Hp} {s : Shared} {Q : VK} {us ws : List Value} {vs zs : List V} (F : FnG X.prog X.w X.K X.mg X.base CX k f fd ps sp) (hf : FdOk fd ps) (hr : Room k X.A) (hg : X.A.guards = some []) (hx : ∀ e s', CX X.stack H s E e s' → X.xe e s')
    (hp : permOf ps us.length ks = some perm) (hw : ws.length = ks.length)
    (I : Inv X pins σ H s) (r : Vals vs us) (rz : Vals zs ws) (h : sp (pick perm (vs ++ zs)) H Q E) : wpAny (model X.prog X.w) X.A (PySem.call (.ref f) us (ks.zip ws)) (EP X pins σ Q) X.xe s := by
  have rel : ∀ (perm : List Nat) {as : List V} {bs : List Value}, Vals as bs → Vals (pick perm as) (pick perm bs) := by
    intro perm as bs r
    induction perm with
    | nil => exact .nil
    | cons i perm ih =>
      unfold pick at ih ⊢
      rw [List.filterMap_cons, List.filterMap_cons]
      cases e1 : as[i]? with
      | none =>
        rw [r.none_of e1]
        exact ih
      | some a =>
        obtain ⟨b, hb, rb⟩ := r.get e1
        rw [hb]
        exact .cons rb ih
  refine wpAny_call (codeAny_mono (F.run X.A X.stack s H ⟨us, ks.zip ws⟩ (pick perm (us ++ ws)) (pick perm (vs ++ zs)) Q E hr hg I.env0 (binds_kw hf hp hw) (rel perm (r.append rz)) h) fun r s' hq => ?_)
  cases r with
  | error e => exact hx e s' hq
  | ok fl =>
    cases fl with
    | ret u => exact I.after hq
    | next => exact hq.elim
    | brk => exact hq.elim
    | cont => exact hq.elim
end
end Tw
set_option Elab.async false
set_option linter.all false
set_option autoImplicit false
set_option maxRecDepth 100000
/-! TwEx: from the model's trees to the small language: expressions. -/
namespace Tw
open PySem PySem.Spec PyProof.Rows L2

/-! ### the operators raise nothing -/
theorem mkL_noX (m : Bool) (xs : List VV) (s : Hs) (v : VV) (s' : Hs) : mkL m xs s ≠ .exc v s' := by
  unfold mkL
  split
  · split <;> (intro h; cases h)
  · intro h; cases h
theorem mkT_noX (xs : List VV) (s : Hs) (v : VV) (s' : Hs) : mkT xs s ≠ .exc v s' := by
  unfold mkT
  split <;> (intro h; cases h)
theorem binL_noX (m : Bool) (o : Bop) (x y : VV) (s : Hs) (v : VV) (s' : Hs) : binL m o x y s ≠ .exc v s' := by
  unfold binL
  repeat' split
  all_goals first | (intro h; cases h; done) | exact mkL_noX _ _ _ _ _
theorem binG_noX (m : Bool) (o : Bop) (x y : VV) (s : Hs) (v : VV) (s' : Hs) : binG m o x y s ≠ .exc v s' := by
  unfold binG binV
  repeat' split
  all_goals first | (intro h; cases h; done) | exact mkT_noX _ _ _ _ | exact lift_noX _ _ _ _ | exact binL_noX _ _ _ _ _ _ _
theorem gIdx_noX (x y : VV) (s : Hs) (v : VV) (s' : Hs) : gIdx x y s ≠ .exc v s' := by
  unfold gIdx
  repeat' split
  all_goals first | (intro h; cases h; done) | exact lift_noX _ _ _ _
theorem gSl_noX (m : Bool) (x : VV) (l u : Option Int) (s : Hs) (v : VV) (s' : Hs) : gSl m x l u s ≠ .exc v s' := by
  unfold gSl
  repeat' split
  all_goals first | (intro h; cases h; done) | exact mkL_noX _ _ _ _ _
theorem gCmp_noX (o : Cop) (x y : VV) (s : Hs) (v : VV) (s' : Hs) : gCmp o x y s ≠ .exc v s' := lift_noX _ _ _ _
theorem gNeg_noX (x : VV) (s : Hs) (v : VV) (s' : Hs) : gNeg x s ≠ .exc v s' := lift_noX _ _ _ _
theorem biV_noX (m : Bool) (b : Bi) (xs : List VV) (s : Hs) (v : VV) (s' : Hs) : biV m b xs s ≠ .exc v s' := by
  unfold biV
  repeat' split
  all_goals first | (intro h; cases h; done) | exact lift_noX _ _ _ _ | exact mkL_noX _ _ _ _ _ | exact mkT_noX _ _ _ _
theorem bmV_noX (b : Bm) (x : VV) (xs : List VV) (s : Hs) (v : VV) (s' : Hs) : bmV b x xs s ≠ .exc v s' := by
  unfold bmV
  repeat' split
  all_goals first | (intro h; cases h; done) | exact lift_noX _ _ _ _
theorem setD_noX (k : Nat) (i x : VV) (s : Hs) (v : VV) (s' : Hs) : setD s k i x ≠ .exc v s' := by
  unfold setD
  repeat' split
  all_goals (intro h; cases h)
theorem setAt_noX (o i x : VV) (s : Hs) (v : VV) (s' : Hs) : setAt s o i x ≠ .exc v s' := by
  unfold setAt
  repeat' split
  all_goals first | exact setD_noX _ _ _ _ _ _ | (intro h; cases h; done)

/-! ### judgements -/
def SE (X : Cx) (w : Wish) (cl : Cl) (e : Expr) (ir : Ex) : Prop := PE X e (rdE X.K w (ev cl ir))
def tst (cl : Cl) (ir : Ex) : Sv → Hs → Out Bool := fun σ s => (ev cl ir σ s).bind fun v s => lift (trV s v) s
def ST (X : Cx) (w : Wish) (cl : Cl) (e : Expr) (ir : Ex) : Prop := PT X e (rdT X.K w (tst cl ir))
structure SB (X : Cx) (w : Wish) (cl : Cl) (e : Expr) (ir : Ex) : Prop where
  v : SE X w cl e ir
  t : ST X w cl e ir
def SA (X : Cx) (w : Wish) (cl : Cl) (es : List Expr) (irs : List Ex) : Prop := PA X es (rdA X.K w (evs cl irs))
def notStar : Expr → Bool
  | .Starred .. => false
  | _ => true
theorem star_cons {e : Expr} {es : List Expr} {env : Env} (h : notStar e = true) : starEach (e :: es) env = (false, eval e env) :: starEach es env := by
  cases e <;> first | rfl | cases h
theorem star_plain {env : Env} {pos : Pos} : ∀ {es : List Expr}, (∀ e ∈ es, notStar e = true) → (backTo pos (starEach es env)).any (·.1) = false
  | [], _ => rfl
  | e :: es, h => by
    rw [star_cons (h e List.mem_cons_self)]
    show (false || (backTo pos (starEach es env)).any (·.1)) = false
    rw [star_plain fun e he => h e (List.mem_cons_of_mem _ he)]
    rfl
section
variable {X : Cx} {w : Wish} {cl : Cl}
theorem sa_nil : SA X w cl [] [] := PA.imp pa_nil fun σ H Q ⟨m, σv, S, s, e⟩ => by
  have e : Posts X.K m H [] S Q := e
  exact e m H [] Ext.refl s.h .nil
theorem sa_cons {e : Expr} {es : List Expr} {ir : Ex} {irs : List Ex} (hn : notStar e = true) (h : SE X w cl e ir) (t : SA X w cl es irs) : SA X w cl (e :: es) (ir :: irs) :=
  PA.imp (pa_cons h t (star_cons hn)) fun σ H Q ⟨m, σv, S, s, q⟩ => by
    have q : Res X.K w m H σ ((ev cl ir σv S).bind fun v s => (evs cl irs σv s).bind fun vs s => .ok (v :: vs) s) _ := q
    refine rd_then s (q.bind.imp fun x S1 q1 m1 H1 v x1 s1 r1 => rd_thenA s1 ((q1.bind.ext x1).imp fun xs S2 q2 m2 H2 vs x2 s2 r2 => ?_))
    have q2 : Posts X.K m H (x :: xs) S2 Q := q2
    exact q2 m2 H2 (v :: vs) (x1.trans x2) s2.h (.cons (r1.ext x2) r2)
/-- a test by the value's truth -/
theorem st_of {e : Expr} {ir : Ex} (h : SE X w cl e ir) (he : ∀ whole, isTrue e X.env whole = (do let v ← whole; standAt e.pos; holding [v] (truthy v))) : ST X w cl e ir :=
  PT.imp (pt_truth h he) fun σ H Q ⟨m, σv, S, s, q⟩ => by
    have q : Res X.K w m H σ ((ev cl ir σv S).bind fun v s => lift (trV s v) s) _ := q
    refine rd_then s (q.bind.imp fun x S1 q1 m1 H1 v x1 s1 r1 => ?_)
    obtain ⟨b, S', e1, p⟩ := q1.ok (lift_noX _ _)
    obtain ⟨e2, rfl⟩ := lift_eq_ok e1
    exact ⟨b, tru_of s1.h r1 e2, p m1 H1 x1 s1.h⟩
theorem sb_of {e : Expr} {ir : Ex} (h : SE X w cl e ir) (he : ∀ whole, isTrue e X.env whole = (do let v ← whole; standAt e.pos; holding [v] (truthy v))) : SB X w cl e ir := ⟨h, st_of h he⟩

/-! ### each form -/
theorem se_var {i : Nat} {x : Str} {pos : Pos} (hN : X.N[i]? = some x) (hv : Vis X.env.scope x) (hd : (x == ("__debug__" : Str)) = false) (hcd : (x == ("__classdict__" : Str)) = false) : SB X w cl (.Name x pos) (.var i) := by
  refine sb_of (PE.imp (pe_var hN hv hd hcd) fun σ H Q ⟨m, σv, S, s, q⟩ => ?_) fun _ => rfl
  have q : Res X.K w m H σ (match σv[i]? with
    | some (some v) => Out.ok v S
    | _ => .bad) fun x S' => Post X.K m H x S' Q := q
  split at q
  · rename_i v hv
    obtain ⟨u, h1, h2⟩ := s.e.get i v hv
    exact ⟨u, h1, q m H u Ext.refl s.h h2⟩
  · exact q.elim
theorem se_const {v : V} {l : Lit} {e : Expr} (h : PE X e (tC v)) (r : ∀ K m H, R K m H l.vv v) (he : ∀ whole, isTrue e X.env whole = (do let v ← whole; standAt e.pos; holding [v] (truthy v))) : SB X w cl e (.lit l) :=
  sb_of (PE.imp h fun σ H Q ⟨m, σv, S, s, q⟩ => by
    have q : Post X.K m H l.vv S Q := q
    exact q m H v Ext.refl s.h (r _ _ _)) he
theorem se_bin {a b : Expr} {op : Operator} {o : Bop} {ia ib : Ex} {d : Bool} {pos : Pos} (ho : op = bopOp o) (ha : SE X w cl a ia) (hb : SE X w cl b ib) : SB X w cl (.BinOp a op b pos) (.bin d o ia ib) := by
  subst ho
  exact sb_of (PE.imp (pe_op (opr_bin o) ha hb) (rd_op2 (sd_bin X.K d o) (binG_noX d o))) fun _ => rfl
theorem se_neg {a : Expr} {ia : Ex} {pos : Pos} (ha : SE X w cl a ia) : SB X w cl (.UnaryOp .USub a pos) (.neg ia) :=
  sb_of (PE.imp (pe_un un_neg ha) (rd_op1 (sd_neg X.K) gNeg_noX)) fun _ => rfl
theorem trV_bl (s : Hs) (b : Bool) : trV s (.bl b) = some b := rfl
theorem tru_bl {K : PySem.W.Frag} {H : Hp} {b : Bool} : TruV K (.bl b) H b := rfl
theorem se_no {a : Expr} {ia : Ex} {pos : Pos} (ha : SB X w cl a ia) : SB X w cl (.UnaryOp .Not a pos) (.no ia) := by
  refine ⟨PE.imp (pe_notT ha.v) fun σ H Q ⟨m, σv, S, s, q⟩ => ?_, PT.imp (pt_not ha.t) fun σ H Q ⟨m, σv, S, s, q⟩ => ?_⟩
  · have q : Res X.K w m H σ ((ev cl ia σv S).bind fun x s => lift ((trV s x).map fun b => VV.bl (!b)) s) fun x S' => Post X.K m H x S' Q := q
    refine rd_then s (q.bind.imp fun x S1 q1 m1 H1 v x1 s1 r1 => ?_)
    obtain ⟨b, S', e1, p⟩ := q1.ok (lift_noX _ _)
    obtain ⟨e2, rfl⟩ := lift_eq_ok e1
    obtain ⟨c, e3, rfl⟩ := Option.map_eq_some_iff.mp e2
    exact ⟨c, tru_of s1.h r1 e3, p m1 H1 _ x1 s1.h (.bl _)⟩
  · have q : Res X.K w m H σ (((ev cl ia σv S).bind fun x s => lift ((trV s x).map fun b => VV.bl (!b)) s).bind fun v s => lift (trV s v) s) fun x S' => PostB X.K m H x S' Q := q
    rw [Out.bind_assoc] at q
    refine rd_thenT s ?_
    unfold tst
    refine Res.of_bind (q.bind.imp fun x S1 q1 => ?_)
    cases e : trV S1 x with
    | none => rw [e] at q1; exact q1.elim
    | some b =>
      rw [e] at q1
      have q1 : PostB X.K m H (!b) S1 Q := q1
      exact fun m1 H1 x1 s1 => q1 m1 H1 x1 s1.h
theorem se_tup {es : List Expr} {irs : List Ex} {k : Nat} {pos : Pos} (h : SA X w cl es irs) : SB X w cl (.Tuple es k pos) (.tup irs) := by
  refine sb_of (PE.imp (pe_tup h) fun σ H Q ⟨m, σv, S, s, q⟩ => ?_) fun _ => rfl
  have q : Res X.K w m H σ ((evs cl irs σv S).bind fun vs s => mkT vs s) fun x S' => Post X.K m H x S' Q := q
  refine rd_thenA s (q.bind.imp fun x S1 q1 m1 H1 v x1 s1 r1 => ?_)
  obtain ⟨z, S', e1, p⟩ := q1.ok (mkT_noX _ _)
  exact post_mkT s1.h r1 e1 (p.ext x1)
theorem se_lst {es : List Expr} {irs : List Ex} {d : Bool} {pos : Pos} (h : SA X w cl es irs) : SB X w cl (.List es pos) (.lst d irs) := by
  refine sb_of (PE.imp (pe_lst h) fun σ H Q ⟨m, σv, S, s, q⟩ => ?_) fun _ => rfl
  have q : Res X.K w m H σ ((evs cl irs σv S).bind fun vs s => mkL d vs s) fun x S' => Post X.K m H x S' Q := q
  refine rd_thenA s (q.bind.imp fun x S1 q1 m1 H1 v x1 s1 r1 => ?_)
  obtain ⟨z, S', e1, p⟩ := q1.ok (mkL_noX _ _ _)
  exact post_mkL s1.h r1 e1 (p.ext x1)
def okSub : Expr → Bool
  | .Slice .. => false
  | _ => true
theorem plain_ix {b : Expr} (h : okSub b = true) : PlainIx b := by
  intro o i
  cases b <;> first | rfl | cases h
theorem se_idx {a b : Expr} {ia ib : Ex} {pos : Pos} (hu : X.A.units + 65 < cLine) (hs : okSub b = true) (ha : SE X w cl a ia) (hb : SE X w cl b ib) : SB X w cl (.Subscript a b pos) (.idx ia ib) :=
  sb_of (PE.imp (pe_ix (ix_all hu) ha hb (plain_ix hs)) (rd_op2 (sd_idx X.K) gIdx_noX)) fun _ => rfl
/-- a slice's bound -/
def SO (X : Cx) (w : Wish) (cl : Cl) (o : Option Expr) (ir : Ex) : Prop := match o with
  | none => ir = .lit .non
  | some e => SE X w cl e ir ∧ ir ≠ .lit .non
theorem so_rd {o : Option Expr} {ir : Ex} (h : SO X w cl o ir) : ∃ t, PO X o t ∧ ∀ m σv S σ H (Q : Option Int → Hp → Prop), Sit X.K m σv S σ H →
    Res X.K w m H σ (ev cl ir σv S) (fun x S1 => ∃ b, bndOf ir x = some b ∧ ∀ m' H', Ext m H m' H' → Sit X.K m' σv S1 σ H' → Q b H') → t σ H Q := by
  cases o with
  | none =>
    have h : ir = .lit .non := h
    subst h
    refine ⟨_, po_none, fun m σv S σ H Q s q => ?_⟩
    obtain ⟨b, e, k⟩ := q
    cases e
    exact k m H Ext.refl s
  | some e =>
    obtain ⟨h, hn⟩ : SE X w cl e ir ∧ ir ≠ .lit .non := h
    refine ⟨_, po_some h, fun m σv S σ H Q s q => ?_⟩
    refine ⟨m, σv, S, s, q.imp fun x S1 q1 m1 H1 v x1 h1 r1 => ?_⟩
    obtain ⟨b, e1, k⟩ := q1
    unfold bndOf at e1
    split at e1
    · exact absurd rfl hn
    · obtain ⟨i, e2, rfl⟩ := Option.map_eq_some_iff.mp e1
      have kk := k m1 H1 x1 (s.ext x1 h1)
      cases r1 <;> simp [intOf] at e2
      subst e2
      exact ⟨_, rfl, kk⟩
theorem se_sl {a : Expr} {lo hi : Option Expr} {ia il ih : Ex} {d : Bool} {p2 pos : Pos} (ha : SE X w cl a ia) (hl : SO X w cl lo il) (hh : SO X w cl hi ih) : SB X w cl (.Subscript a (.Slice lo hi none p2) pos) (.sl d ia il ih) := by
  obtain ⟨tl, pl, kl⟩ := so_rd hl
  obtain ⟨th, ph, kh⟩ := so_rd hh
  refine sb_of (PE.imp (pe_slice slr_seq ha pl ph) fun σ H Q ⟨m, σv, S, s, q⟩ => ?_) fun _ => rfl
  have q : Res X.K w m H σ ((ev cl ia σv S).bind fun x s => (ev cl il σv s).bind fun l s => (lift (bndOf il l) s).bind fun l s =>
      (ev cl ih σv s).bind fun u s => (lift (bndOf ih u) s).bind fun u s => gSl d x l u s) fun x S' => Post X.K m H x S' Q := q
  refine rd_then s (q.bind.imp fun x S1 q1 m1 H1 v x1 s1 r1 => kl m1 σv S1 σ H1 _ s1 ((q1.bind.ext x1).imp fun l S2 q2 => ?_))
  obtain ⟨lb, S2', e1, q3⟩ := q2.bind.ok (lift_noX _ _)
  obtain ⟨el, rfl⟩ := lift_eq_ok e1
  refine ⟨lb, el, fun m2 H2 x2 s2 => kh m2 σv S2' σ H2 _ s2 (((q3.bind.ext x1).ext x2).imp fun u S3 q4 => ?_)⟩
  obtain ⟨ub, S3', e2, q5⟩ := q4.bind.ok (lift_noX _ _)
  obtain ⟨eu, rfl⟩ := lift_eq_ok e2
  refine ⟨ub, eu, fun m3 H3 x3 s3 => ?_⟩
  obtain ⟨z, S', e3, p⟩ := q5.ok (gSl_noX _ _ _ _ _)
  exact sd_sl s3.h ((r1.ext x2).ext x3) e3 (((p.ext x1).ext x2).ext x3)

/-! ### comparisons, and, or, if -/
theorem cmp_test {K : PySem.W.Frag} {m : Mp} {H : Hp} {σ : L2.St} {o : Cop} {x y : VV} {S2 : Hs} {Q : Bool → Hp → Prop}
    (q : Res K w m H σ ((gCmp o x y S2).bind fun v s => lift (trV s v) s) fun b S' => PostB K m H b S' Q) : ∃ z S', gCmp o x y S2 = .ok z S' ∧ Post K m H z S' fun x H' => ∃ k, x = .bl k ∧ Q k H' := by
  unfold gCmp at q ⊢
  cases e : cmpV S2 o x y with
  | none => rw [e] at q; exact q.elim
  | some b =>
    rw [e] at q
    have q : PostB K m H b S2 Q := q
    exact ⟨.bl b, S2, rfl, fun m1 H1 v x1 h1 r1 => by cases r1; exact ⟨b, rfl, q m1 H1 x1 h1⟩⟩
theorem se_cmp {a b : Expr} {op : CmpOp} {o : Cop} {ia ib : Ex} {pos : Pos} (hu : X.A.units + 65 < cLine) (ho : op = copOp o) (hm : behindInMarks op b = false) (ha : SE X w cl a ia) (hb : SE X w cl b ib) : SB X w cl (.Compare a [op] [b] pos) (.cmp o ia ib) := by
  subst ho
  refine ⟨PE.imp (pe_cmpR (opr_cmp hu o) ha hb hm) (rd_op2 (sd_cmp X.K o) (gCmp_noX o)), PT.imp (pt_cmpR (opr_cmp hu o) ha hb hm) fun σ H Q ⟨m, σv, S, s, q⟩ => ?_⟩
  refine rd_op2k (sd_cmp X.K o) (g' := fun x y s => (gCmp o x y s).bind fun v s => lift (trV s v) s) s ?_ fun x y S2 q => cmp_test q
  have q : Res X.K w m H σ (((ev cl ia σv S).bind fun x s => (ev cl ib σv s).bind fun y s => gCmp o x y s).bind fun v s => lift (trV s v) s) fun x S' => PostB X.K m H x S' Q := q
  simp only [Out.bind_assoc] at q
  exact q
theorem se_chain {a b c : Expr} {op op' : CmpOp} {o o' : Cop} {ia ib ic : Ex} {pos : Pos} (hu : X.A.units + 65 < cLine) (ho : op = copOp o) (ho' : op' = copOp o') (hm : lastMarks [op, op'] [b, c] = false) (ha : SE X w cl a ia) (hb : SE X w cl b ib) (hc : SE X w cl c ic) :
    SB X w cl (.Compare a [op, op'] [b, c] pos) (.chain o o' ia ib ic) := by
  subst ho
  subst ho'
  have core : ∀ {σ : L2.St} {H : Hp} {Q : VK} {m : Mp} {σv : Sv} {S : Hs} {α : Type} {fin : VV → Hs → Out α} {kk : α → Hs → Prop} (s : Sit X.K m σv S σ H)
      (q : Res X.K w m H σ ((ev cl ia σv S).bind fun x s => (ev cl ib σv s).bind fun y s => (lift (cmpV s o x y) s).bind fun t s => (if t then (ev cl ic σv s).bind fun z s => gCmp o' y z s else .ok (.bl false) s).bind fin) kk)
      (cv : ∀ (t : Bool) S2, Res X.K w m H σ (fin (.bl t) S2) kk → ∀ m2 H2, Ext m H m2 H2 → SimH X.K m2 H2 S2 → Q (.bl t) H2), tChain (rCmp X.K o) (rCmp X.K o') (rdE X.K w (ev cl ia)) (rdE X.K w (ev cl ib)) (rdE X.K w (ev cl ic)) σ H Q := by
    intro σ H Q m σv S α fin kk s q cv
    refine rd_then s (q.bind.imp fun x S1 q1 m1 H1 v x1 s1 r1 => rd_then s1 ((q1.bind.ext x1).imp fun y S2 q2 m2 H2 u x2 s2 r2 => ?_))
    obtain ⟨t, S3, e1, q3⟩ := q2.bind.ok (lift_noX _ _)
    obtain ⟨e2, rfl⟩ := lift_eq_ok e1
    refine sd_cmp X.K o m2 H2 S3 x y v u (.bl t) S3 _ s2.h (r1.ext x2) r2 (by unfold gCmp; rw [e2]; rfl) fun m3 H3 z x3 h3 r3 => ?_
    cases r3
    refine ⟨t, rfl, ?_⟩
    cases t with
    | false => exact cv false S3 q3 m3 H3 ((x1.trans x2).trans x3) h3
    | true =>
      have q3 : Res X.K w m H σ (((ev cl ic σv S3).bind fun z s => gCmp o' y z s).bind fin) kk := q3
      rw [Out.bind_assoc] at q3
      refine rd_then (s2.ext x3 h3) (((q3.bind.ext x1).ext x2).ext x3 |>.imp fun z S4 q4 m4 H4 u4 x4 s4 r4 => ?_)
      have q5 := q4.bind
      cases e5 : cmpV S4 o' y z with
      | none => unfold gCmp at q5; rw [e5] at q5; exact q5.elim
      | some b =>
        unfold gCmp at q5
        rw [e5] at q5
        refine sd_cmp X.K o' m4 H4 S4 y z u u4 (.bl b) S4 _ s4.h ((r2.ext x3).ext x4) r4 (by unfold gCmp; rw [e5]; rfl) fun m5 H5 z5 x5 h5 r5 => ?_
        cases r5
        exact cv b S4 q5 m5 H5 ((((x1.trans x2).trans x3).trans x4).trans x5) h5
  refine ⟨PE.imp (pe_chain (opr_cmp hu o) (opr_cmp hu o') ha hb hc hm) fun σ H Q ⟨m, σv, S, s, q⟩ => ?_, PT.imp (pt_chain (opr_cmp hu o) (opr_cmp hu o') ha hb hc hm) fun σ H Q ⟨m, σv, S, s, q⟩ => ?_⟩
  · refine core (fin := fun v s => .ok v s) (kk := fun x S' => Post X.K m H x S' Q) s ?_ fun t S2 q m2 H2 x2 h2 => ?_
    · have q : Res X.K w m H σ (ev cl (.chain o o' ia ib ic) σv S) _ := q
      simp only [ev] at q
      refine q.bind.imp (fun x S1 q1 => q1.bind.imp fun y S2 q2 => q2.bind.imp fun t S3 q3 => ?_) |> fun z => Res.of_bind (z.imp fun x S1 z1 => Res.of_bind (z1.imp fun y S2 z2 => Res.of_bind z2))
      refine Res.of_bind (q3.imp fun v S4 q4 => q4)
    · have q : Post X.K m H (.bl t) S2 Q := q
      exact q m2 H2 _ x2 h2 (.bl t)
  · refine core (Q := fun x H' => ∃ k, x = .bl k ∧ Q k H') (fin := fun v s => lift (trV s v) s) (kk := fun x S' => PostB X.K m H x S' Q) s ?_ fun t S2 q m2 H2 x2 h2 => ?_
    · have q : Res X.K w m H σ ((ev cl (.chain o o' ia ib ic) σv S).bind fun v s => lift (trV s v) s) _ := q
      simp only [ev, Out.bind_assoc] at q
      exact q
    · have q : PostB X.K m H t S2 Q := q
      exact ⟨t, rfl, q m2 H2 x2 h2⟩

inductive All2 (P : Expr → Ex → Prop) : List Expr → List Ex → Prop
  | nil : All2 P [] []
  | cons {e : Expr} {ir : Ex} {es : List Expr} {irs : List Ex} : P e ir → All2 P es irs → All2 P (e :: es) (ir :: irs)
theorem ite_B {α : Type} {b : Bool} {x y : Out α} {K : PySem.W.Frag} {m : Mp} {H : Hp} {σ : L2.St} {k : α → Hs → Prop} (q : Res K w m H σ (if b = true then x else y) k) : (b = true ∧ Res K w m H σ x k) ∨ (b = false ∧ Res K w m H σ y k) := by
  cases b
  · exact .inr ⟨rfl, q⟩
  · exact .inl ⟨rfl, q⟩
theorem and_ok {pos : Pos} : ∀ {es : List Expr} {irs : List Ex}, All2 (SB X w cl) es irs → es ≠ [] →
    PE X (.BoolOp .And es pos) (rdE X.K w (evAnd cl irs)) ∧ PW X (.BoolOp .And es pos) (rdT X.K w fun σ s => (evAnd cl irs σ s).bind fun v s => lift (trV s v) s)
  | [], _, _, h => absurd rfl h
  | [e], _, .cons h .nil, _ => ⟨PE.imp (pe_one h.v) fun σ H Q q => q, ⟨fun wh pins s σ H Q I q => (pw_and1 h.t).run wh pins s σ H Q I q⟩⟩
  | e :: e2 :: es, ir :: ir2 :: irs, .cons h t, _ => by
    obtain ⟨h1, h2⟩ := and_ok (pos := pos) t (by simp)
    refine ⟨PE.imp (pe_andT h.v h1) fun σ H Q ⟨m, σv, S, s, q⟩ => ?_, ⟨fun wh pins s σ H Q I q => (pw_and h.t h2).run wh pins s σ H Q I ?_⟩⟩
    · have q : Res X.K w m H σ ((ev cl ir σv S).bind fun v s => (lift (trV s v) s).bind fun t s => if t then evAnd cl (ir2 :: irs) σv s else .ok v s) _ := q
      refine rd_then s (q.bind.imp fun x S1 q1 m1 H1 v x1 s1 r1 => ?_)
      obtain ⟨b, S2, e1, q2⟩ := q1.bind.ok (lift_noX _ _)
      obtain ⟨e3, rfl⟩ := lift_eq_ok e1
      refine ⟨b, tru_of s1.h r1 e3, ?_⟩
      rcases ite_B q2 with ⟨rfl, q3⟩ | ⟨rfl, q3⟩
      · exact ⟨m1, σv, S2, s1, (q3.ext x1).imp fun z S3 p => Post.ext x1 p⟩
      · have q3 : Post X.K m H x S2 Q := q3
        exact q3 m1 H1 v x1 s1.h r1
    · obtain ⟨m, σv, S, s, q⟩ := q
      have q : Res X.K w m H σ (((ev cl ir σv S).bind fun v s => (lift (trV s v) s).bind fun t s => if t then evAnd cl (ir2 :: irs) σv s else .ok v s).bind fun v s => lift (trV s v) s) _ := q
      rw [Out.bind_assoc] at q
      refine rd_thenT s ?_
      unfold tst
      refine Res.of_bind (q.bind.imp fun x S1 q1 => ?_)
      rw [Out.bind_assoc] at q1
      obtain ⟨b, S2, e1, q2⟩ := q1.bind.ok (lift_noX _ _)
      obtain ⟨e3, rfl⟩ := lift_eq_ok e1
      rw [e3]
      intro m1 H1 x1 s1
      cases b with
      | true =>
        exact ⟨m1, σv, S2, s1, (q2.ext x1).imp fun z S3 p => PostB.ext x1 p⟩
      | false =>
        have q2 : Res X.K w m H σ (lift (trV S2 x) S2) fun x S' => PostB X.K m H x S' Q := q2
        rw [e3] at q2
        have q2 : PostB X.K m H false S2 Q := q2
        exact q2 m1 H1 x1 s1.h
theorem or_ok {pos : Pos} : ∀ {es : List Expr} {irs : List Ex}, All2 (SB X w cl) es irs → es ≠ [] →
    PE X (.BoolOp .Or es pos) (rdE X.K w (evOr cl irs)) ∧ PW X (.BoolOp .Or es pos) (rdT X.K w fun σ s => (evOr cl irs σ s).bind fun v s => lift (trV s v) s)
  | [], _, _, h => absurd rfl h
  | [e], _, .cons h .nil, _ => ⟨PE.imp (pe_one h.v) fun σ H Q q => q, ⟨fun wh pins s σ H Q I q => (pw_or1 h.t).run wh pins s σ H Q I q⟩⟩
  | e :: e2 :: es, ir :: ir2 :: irs, .cons h t, _ => by
    obtain ⟨h1, h2⟩ := or_ok (pos := pos) t (by simp)
    refine ⟨PE.imp (pe_orT h.v h1) fun σ H Q ⟨m, σv, S, s, q⟩ => ?_, ⟨fun wh pins s σ H Q I q => (pw_or h.t h2).run wh pins s σ H Q I ?_⟩⟩
    · have q : Res X.K w m H σ ((ev cl ir σv S).bind fun v s => (lift (trV s v) s).bind fun t s => if t then .ok v s else evOr cl (ir2 :: irs) σv s) _ := q
      refine rd_then s (q.bind.imp fun x S1 q1 m1 H1 v x1 s1 r1 => ?_)
      obtain ⟨b, S2, e1, q2⟩ := q1.bind.ok (lift_noX _ _)
      obtain ⟨e3, rfl⟩ := lift_eq_ok e1
      refine ⟨b, tru_of s1.h r1 e3, ?_⟩
      rcases ite_B q2 with ⟨rfl, q3⟩ | ⟨rfl, q3⟩
      · have q3 : Post X.K m H x S2 Q := q3
        exact q3 m1 H1 v x1 s1.h r1
      · exact ⟨m1, σv, S2, s1, (q3.ext x1).imp fun z S3 p => Post.ext x1 p⟩
    · obtain ⟨m, σv, S, s, q⟩ := q
      have q : Res X.K w m H σ (((ev cl ir σv S).bind fun v s => (lift (trV s v) s).bind fun t s => if t then .ok v s else evOr cl (ir2 :: irs) σv s).bind fun v s => lift (trV s v) s) _ := q
      rw [Out.bind_assoc] at q
      refine rd_thenT s ?_
      unfold tst
      refine Res.of_bind (q.bind.imp fun x S1 q1 => ?_)
      rw [Out.bind_assoc] at q1
      obtain ⟨b, S2, e1, q2⟩ := q1.bind.ok (lift_noX _ _)
      obtain ⟨e3, rfl⟩ := lift_eq_ok e1
      rw [e3]
      intro m1 H1 x1 s1
      cases b with
      | false =>
        exact ⟨m1, σv, S2, s1, (q2.ext x1).imp fun z S3 p => PostB.ext x1 p⟩
      | true =>
        have q2 : Res X.K w m H σ (lift (trV S2 x) S2) fun x S' => PostB X.K m H x S' Q := q2
        rw [e3] at q2
        have q2 : PostB X.K m H true S2 Q := q2
        exact q2 m1 H1 x1 s1.h
theorem se_and {es : List Expr} {irs : List Ex} {pos : Pos} (h : All2 (SB X w cl) es irs) (hn : es ≠ []) : SB X w cl (.BoolOp .And es pos) (.conj irs) :=
  let ⟨a, b⟩ := and_ok (pos := pos) h hn
  ⟨a, b.pt⟩
theorem se_or {es : List Expr} {irs : List Ex} {pos : Pos} (h : All2 (SB X w cl) es irs) (hn : es ≠ []) : SB X w cl (.BoolOp .Or es pos) (.disj irs) :=
  let ⟨a, b⟩ := or_ok (pos := pos) h hn
  ⟨a, b.pt⟩
theorem pt_ite {c a b : Expr} {tc ta tb : TT} {pos : Pos} (hc : PT X c tc) (ha : PT X a ta) (hb : PT X b tb) : PT X (.IfExp c a b pos) (fun σ H Q => tc σ H fun k H1 => if k = true then ta σ H1 Q else tb σ H1 Q) := by
  refine ⟨fun pins s σ H Q I h => isTrue_IfExp (thn (hc.run pins s σ H _ I h) fun k s1 ⟨H1, I1, q1⟩ => ?_)⟩
  cases k with
  | true => exact ha.run pins s1 σ H1 Q I1 q1
  | false => exact hb.run pins s1 σ H1 Q I1 q1
theorem se_ite {c a b : Expr} {ic ia ib : Ex} {pos : Pos} (hc : SB X w cl c ic) (ha : SB X w cl a ia) (hb : SB X w cl b ib) : SB X w cl (.IfExp c a b pos) (.ite ic ia ib) := by
  refine ⟨PE.imp (pe_ifExp hc.t ha.v hb.v) fun σ H Q ⟨m, σv, S, s, q⟩ => ?_, PT.imp (pt_ite hc.t ha.t hb.t) fun σ H Q ⟨m, σv, S, s, q⟩ => ?_⟩
  · have q : Res X.K w m H σ ((ev cl ic σv S).bind fun x s => (lift (trV s x) s).bind fun t s => if t then ev cl ia σv s else ev cl ib σv s) fun x S' => Post X.K m H x S' Q := q
    refine rd_thenT s ?_
    unfold tst
    refine Res.of_bind (q.bind.imp fun x S1 q1 => q1.bind.imp fun t S2 q2 m1 H1 x1 s1 => ?_)
    cases t with
    | true => exact ⟨m1, σv, S2, s1, (q2.ext x1).imp fun z S3 p => Post.ext x1 p⟩
    | false => exact ⟨m1, σv, S2, s1, (q2.ext x1).imp fun z S3 p => Post.ext x1 p⟩
  · have q : Res X.K w m H σ (((ev cl ic σv S).bind fun x s => (lift (trV s x) s).bind fun t s => if t then ev cl ia σv s else ev cl ib σv s).bind fun v s => lift (trV s v) s) fun x S' => PostB X.K m H x S' Q := q
    rw [Out.bind_assoc] at q
    refine rd_thenT s ?_
    unfold tst
    refine Res.of_bind (q.bind.imp fun x S1 q1 => ?_)
    rw [Out.bind_assoc] at q1
    refine q1.bind.imp fun t S2 q2 m1 H1 x1 s1 => ?_
    cases t with
    | true => exact ⟨m1, σv, S2, s1, (q2.ext x1).imp fun z S3 p => PostB.ext x1 p⟩
    | false => exact ⟨m1, σv, S2, s1, (q2.ext x1).imp fun z S3 p => PostB.ext x1 p⟩

/-! ### calls of built-ins -/
/-- a built-in by its name: a function or a class -/
theorem bi_call {x : Str} {b : Bi} {es : List Expr} {e : Expr} {irs : List Ex} {d : Bool} {p pos : Pos} (xr : XRoom X) (hb : biPlain b = true) (hg : Gl X x) (hm : X.mg x = none) (hv : bootBuiltins x = some (biVal b)) (hn : x ≠ "__name__") (hd : (x == ("__debug__" : Str)) = false)
    (hs : ∀ e' ∈ e :: es, notStar e' = true) (ha : SA X w cl (e :: es) irs) : SB X w cl (.Call (.Name x p) (e :: es) [] pos) (.bi d b irs) := by
  obtain ⟨r, h1, h2⟩ := bi_ok xr b hb d
  have h3 : ∀ σ H Q, rdE X.K w (ev cl (.bi d b irs)) σ H Q → tCB r (rdA X.K w (evs cl irs)) σ H Q := rd_opL h2 (biV_noX d b)
  have hs1 := star_cons (env := X.env) (es := es) (hs e List.mem_cons_self)
  have hs2 := star_plain (env := X.env) (pos := pos) fun e' he => hs e' (List.mem_cons_of_mem _ he)
  cases b <;> try (exact absurd hb Bool.false_ne_true)
  all_goals first
    | exact sb_of (PE.imp (pe_callB h1 hg hm hv ha hn hd hs1 hs2) h3) fun _ => rfl
    | exact sb_of (PE.imp (pe_callTy h1 hg hm hv ha hn hd hs1 hs2) h3) fun _ => rfl
end
end Tw
set_option Elab.async false
set_option linter.all false
set_option autoImplicit false
set_option maxRecDepth 100000
/-! TwEx2: isinstance, methods of lists, calls of defs. -/
namespace Tw
open PySem PySem.Spec PyProof.Rows L2
/-! ### isinstance -/
def tyName : Ty → String
  | .int => "int"
  | .bool => "bool"
  | .str => "str"
  | .tuple => "tuple"
  | .list => "list"
  | .own _ => ""
def tyPlain : Ty → Bool
  | .own _ => false
  | _ => true
def isN (a : String) : Ty → Bool
  | .int => a == "int" || a == "bool"
  | .bool => a == "bool"
  | .str => a == "str"
  | .tuple => a == "tuple"
  | .list => a == "list"
  | .own _ => false
theorem kit_tab : (["NoneType", "bool", "int", "str", "tuple", "list"].all fun a => [Ty.int, .bool, .str, .tuple, .list].all fun t => kitB a (tyName t) == some (isN a t)) = true := by decide +kernel
theorem boot_tab : ([Ty.int, .bool, .str, .tuple, .list].all fun t => bootBuiltins (Str.ofString (tyName t)) == some (.type (tyName t)) && decide (Str.ofString (tyName t) ≠ "__name__") && (Str.ofString (tyName t) == ("__debug__" : Str)) == false) = true := by decide +kernel
theorem kit_at {a : String} {t : Ty} (ha : a ∈ ["NoneType", "bool", "int", "str", "tuple", "list"]) (ht : tyPlain t = true) : kitB a (tyName t) = some (isN a t) := by
  have h1 := List.all_eq_true.mp kit_tab a ha
  have h2 := List.all_eq_true.mp h1 t (by cases t <;> first | (simp; done) | exact absurd ht Bool.false_ne_true)
  exact beq_iff_eq.mp h2
theorem boot_at {t : Ty} (ht : tyPlain t = true) : bootBuiltins (Str.ofString (tyName t)) = some (.type (tyName t)) ∧ Str.ofString (tyName t) ≠ "__name__" ∧ (Str.ofString (tyName t) == ("__debug__" : Str)) = false := by
  have h2 := List.all_eq_true.mp boot_tab t (by cases t <;> first | (simp; done) | exact absurd ht Bool.false_ne_true)
  rw [Bool.and_eq_true, Bool.and_eq_true] at h2
  exact ⟨beq_iff_eq.mp h2.1.1, of_decide_eq_true h2.1.2, beq_iff_eq.mp h2.2⟩
section
variable {X : Cx} {w : Wish} {cl : Cl}
theorem ty_of {K : PySem.W.Frag} {m : Mp} {H : Hp} {S : Hs} {x : VV} {v : V} {a : String} (h : SimH K m H S) (r : R K m H x v) (e : vTy S x = some a) : TyX K H v (.type a) ∧ a ∈ ["NoneType", "bool", "int", "str", "tuple", "list"] ∧ ∀ t, tyPlain t = true → isTy S x t = isN a t := by
  cases r with
  | non => cases e; exact ⟨.base .non, by simp, fun t ht => by cases t <;> first | rfl | cases ht⟩
  | bl b => cases e; exact ⟨.base (.bl b), by simp, fun t ht => by cases t <;> first | rfl | cases ht⟩
  | int i => cases e; exact ⟨.base (.int i), by simp, fun t ht => by cases t <;> first | rfl | cases ht⟩
  | str y => cases e; exact ⟨.base (.str y), by simp, fun t ht => by cases t <;> first | rfl | cases ht⟩
  | tup f t =>
    cases e
    refine ⟨?_, by simp, fun t ht => by cases t <;> first | rfl | cases ht⟩
    rcases f with ⟨f | ⟨o, f⟩, _⟩ | (f | ⟨o, f⟩) | ⟨o, its, n, hk, hc, _⟩
    · exact .base (.tup f)
    · exact .fTuple f
    · cases f
    · cases f
    · exact .kTuple hk hc
  | lst f t =>
    cases e
    exact ⟨.base (.lst f.1), by simp, fun t ht => by cases t <;> first | rfl | cases ht⟩
  | scr f t => cases e
  | @ref k a hk =>
    have e' : (if (kid S k).isSome = true then some "list" else none) = some _ := e
    split at e'
    · rename_i hs
      cases e'
      obtain ⟨xs, hx⟩ := Option.isSome_iff_exists.mp hs
      obtain ⟨ys, h1, _⟩ := h.list hk hx
      refine ⟨.base (.lst h1), by simp, fun t ht => ?_⟩
      cases t <;> first | rfl | (show (kid S k).isSome = _; rw [hx]; rfl) | cases ht
    · cases e'
  | dct _ _ _ _ => cases e
  | exc _ _ _ _ _ _ => cases e
theorem isi_of {m : Bool} {ts : List Ty} {xs : List VV} {S S' : Hs} {z : VV} (e : biV m (.isinst ts) xs S = .ok z S') : ∃ x a, xs = [x] ∧ vTy S x = some a ∧ z = .bl (ts.any (isTy S x)) ∧ S' = S := by
  unfold biV at e
  split at e <;> try contradiction
  rename_i ts' v hb
  cases hb
  split at e
  · rename_i a ha
    cases e
    exact ⟨_, a, rfl, ha, rfl, rfl⟩
  · cases e
/-- a class's name -/
theorem pe_ty {x : Str} {t : Ty} {p : Pos} (ht : tyPlain t = true) (hx : x = Str.ofString (tyName t)) (hg : Gl X x) (hm : X.mg x = none) : PE X (.Name x p) (tC (.ty (tyName t))) := by
  subst hx
  obtain ⟨h1, h2, h3⟩ := boot_at ht
  exact pe_bltn hg hm h1 rfl h2 h3
theorem se_isi {e : Expr} {ir : Ex} {x f : Str} {t : Ty} {d : Bool} {p p2 pos : Pos} (hf : f = "isinstance") (hgf : Gl X f) (hmf : X.mg f = none) (hn : notStar e = true) (he : SE X w cl e ir) (ht : tyPlain t = true) (hx : x = Str.ofString (tyName t)) (hg : Gl X x) (hm : X.mg x = none) :
    SB X w cl (.Call (.Name f p) [e, .Name x p2] [] pos) (.bi d (.isinst [t]) [ir]) := by
  subst hf
  have hb : bootBuiltins "isinstance" = some (.builtin "isinstance") := by decide +kernel
  refine sb_of (PE.imp (pe_callB call_isi hgf hmf hb (pa_cons he (pa_cons (pe_ty ht hx hg hm) pa_nil) (star_cons hn)) (by decide) (by decide) (star_cons hn) (by rfl)) fun σ H Q ⟨m, σv, S, s, q⟩ => ?_) fun _ => rfl
  have q : Res X.K w m H σ (((ev cl ir σv S).bind fun v s => .ok [v] s).bind fun vs s => biV d (.isinst [t]) vs s) fun x S' => Post X.K m H x S' Q := q
  rw [Out.bind_assoc] at q
  refine rd_then s (q.bind.imp fun x S1 q1 m1 H1 v x1 s1 r1 => ?_)
  have q1 : Res X.K w m H σ (biV d (.isinst [t]) [x] S1) _ := q1
  obtain ⟨z, S', e1, p⟩ := q1.ok (biV_noX _ _ _ _)
  obtain ⟨x', a, hx', ha, rfl, rfl⟩ := isi_of e1
  cases hx'
  obtain ⟨h1, h2, h3⟩ := ty_of s1.h r1 ha
  refine ⟨v, .ty (tyName t), .type a, .type (tyName t), isN a t, rfl, .ty _, h1, kit_ty (kit_at h2 ht), ?_⟩
  have : [t].any (isTy S' x) = isN a t := by simp [h3 t ht]
  rw [this] at p
  exact p m1 H1 _ x1 s1.h (.bl _)
theorem kit_anyN {K : PySem.W.Frag} {a : String} (ha : a ∈ ["NoneType", "bool", "int", "str", "tuple", "list"]) : ∀ {ts : List Ty}, (∀ t ∈ ts, tyPlain t = true) → PySem.W.kitAny K (.type a) (ts.map fun t => .type (tyName t)) = some (ts.any (isN a))
  | [], _ => kitAny_nil
  | t :: ts, h => by
    refine kitAny_cons (kit_ty (kit_at ha (h t List.mem_cons_self))) (fun e => ?_) fun e => ?_
    · rw [kit_anyN ha fun t ht => h t (List.mem_cons_of_mem _ ht), List.any_cons, e, Bool.false_or]
    · rw [List.any_cons, e, Bool.true_or]
inductive AllTy (X : Cx) : List Expr → List Ty → Prop
  | nil : AllTy X [] []
  | cons {x : Str} {p : Pos} {t : Ty} {es : List Expr} {ts : List Ty} : tyPlain t = true → x = Str.ofString (tyName t) → Gl X x → X.mg x = none → AllTy X es ts → AllTy X (.Name x p :: es) (t :: ts)
def tTys : List Ty → TA
  | [] => tNil
  | t :: ts => tCons (tC (.ty (tyName t))) (tTys ts)
theorem pa_tys : ∀ {es : List Expr} {ts : List Ty}, AllTy X es ts → PA X es (tTys ts)
  | _, _, .nil => pa_nil
  | _, _, .cons h1 h2 h3 h4 t => pa_cons (pe_ty h1 h2 h3 h4) (pa_tys t) rfl
theorem tys_rd {σ : L2.St} {H : Hp} : ∀ {ts : List Ty} {Q : List V → Hp → Prop}, Q (ts.map fun t => .ty (tyName t)) H → tTys ts σ H Q
  | [], _, q => q
  | t :: ts, _, q => tys_rd (ts := ts) q
theorem AllTy.plain : ∀ {es : List Expr} {ts : List Ty}, AllTy X es ts → ∀ t ∈ ts, tyPlain t = true
  | _, _, .nil => by simp
  | _, _, .cons h _ _ _ t => fun u hu => by
    rcases List.mem_cons.mp hu with rfl | hu
    · exact h
    · exact AllTy.plain t u hu
theorem paired_tys : ∀ ts : List Ty, Paired ClsV (ts.map fun t => V.ty (tyName t)) (ts.map fun t => Value.type (tyName t))
  | [] => .nil
  | t :: ts => .cons (.ty _) (paired_tys ts)
theorem se_isiT {e : Expr} {ir : Ex} {f : Str} {ts : List Ty} {es : List Expr} {d : Bool} {k : Nat} {p p2 pos : Pos} (hf : f = "isinstance") (hgf : Gl X f) (hmf : X.mg f = none) (hn : notStar e = true) (he : SE X w cl e ir) (ht : AllTy X es ts) (hl : ts.length ≤ 1000) :
    SB X w cl (.Call (.Name f p) [e, .Tuple es k p2] [] pos) (.bi d (.isinst ts) [ir]) := by
  subst hf
  have hb : bootBuiltins "isinstance" = some (.builtin "isinstance") := by decide +kernel
  refine sb_of (PE.imp (pe_callB call_isiT hgf hmf hb (pa_cons he (pa_cons (pe_tup (pa_tys ht)) pa_nil) (star_cons hn)) (by decide) (by decide) (star_cons hn) (by rfl)) fun σ H Q ⟨m, σv, S, s, q⟩ => ?_) fun _ => rfl
  have q : Res X.K w m H σ (((ev cl ir σv S).bind fun v s => .ok [v] s).bind fun vs s => biV d (.isinst ts) vs s) fun x S' => Post X.K m H x S' Q := q
  rw [Out.bind_assoc] at q
  refine rd_then s (q.bind.imp fun x S1 q1 m1 H1 v x1 s1 r1 => ?_)
  have q1 : Res X.K w m H σ (biV d (.isinst ts) [x] S1) _ := q1
  obtain ⟨z, S', e1, p⟩ := q1.ok (biV_noX _ _ _ _)
  obtain ⟨x', a, hx', ha, rfl, rfl⟩ := isi_of e1
  cases hx'
  refine tys_rd (ts := ts) ⟨by rw [List.length_map, sizeLine_eq]; omega, fun q hq => ?_⟩
  have e2 : Ext m1 H1 m1 (upd H1 q (.tup (ts.map fun t => V.ty (tyName t)))) := Ext.new hq
  have h' := s1.h.new (o := .tup (ts.map fun t => V.ty (tyName t))) hq
  obtain ⟨h1, h2, h3⟩ := ty_of h' (r1.ext e2) ha
  refine ⟨v, q, ts.map fun t => .ty (tyName t), .type a, ts.map fun t => .type (tyName t), ts.any (isN a), rfl, upd_same, paired_tys ts, h1, kit_anyN h2 ht.plain, ?_⟩
  have : ts.any (isTy S' x) = ts.any (isN a) := by
    rw [Bool.eq_iff_iff, List.any_eq_true, List.any_eq_true]
    exact ⟨fun ⟨t, a, b⟩ => ⟨t, a, by rw [← h3 t (ht.plain t a)]; exact b⟩, fun ⟨t, a, b⟩ => ⟨t, a, by rw [h3 t (ht.plain t a)]; exact b⟩⟩
  rw [this] at p
  exact p m1 _ _ (x1.trans e2) h' (.bl _)

/-! ### errors of ours -/
theorem gFld_noX (f : Str) (x : VV) (s : Hs) (v : VV) (s' : Hs) : gFld f x s ≠ .exc v s' := by
  unfold gFld
  repeat' split
  all_goals (intro h; cases h)
theorem xv_of {K : PySem.W.Frag} {m : Mp} {H : Hp} {ts : List Xt} {x : VV} {v : V} {b : Bool} (r : R K m H x v) (e : isxV ts x = some b) (ok : ∀ t ∈ ts, t.ok K) : ∃ ty f, XV K H v ty ∧ (∀ t ∈ ts, PySem.W.kitOne K ty (t.val K) = some (f t)) ∧ b = ts.any f := by
  cases r with
  | non =>
    cases e
    refine ⟨_, fun _ => false, .non, fun t ht => kit_non (ok t ht), ?_⟩
    induction ts with
    | nil => rfl
    | cons t ts ih => rw [List.any_cons, Bool.false_or, ← ih fun u hu => ok u (List.mem_cons_of_mem _ hu)]
  | exc G h1 m1 h2 m2 r =>
    cases e
    exact ⟨_, subX _, .exc G h1 h2, fun t ht => G.kit (ok t ht), rfl⟩
  | _ => cases e
/-- the classes named -/
inductive AllXt (X : Cx) : List Expr → List Xt → Prop
  | nil : AllXt X [] []
  | own {x : Str} {p : Pos} {t : String} {es : List Expr} {ts : List Xt} : x = Str.ofString t → Gl X x → (x == ("__debug__" : Str)) = false → X.mg x = some (.ref (xA X.K t)) → XcG X.K t → AllXt X es ts → AllXt X (.Name x p :: es) (.own t :: ts)
  | bas {x : Str} {p : Pos} {t : String} {es : List Expr} {ts : List Xt} : x = Str.ofString t → Gl X x → X.mg x = none → t ∈ xBas → AllXt X es ts → AllXt X (.Name x p :: es) (.bas t :: ts)
theorem xBas_boot : (xBas.all fun t => decide (bootBuiltins (Str.ofString t) = some (.type t)) && decide (Str.ofString t ≠ "__name__") && !(Str.ofString t == ("__debug__" : Str))) = true := by decide +kernel
def tXts (K : PySem.W.Frag) : List Xt → TA
  | [] => tNil
  | t :: ts => tCons (tC (t.v K)) (tXts K ts)
theorem AllXt.ok : ∀ {es : List Expr} {ts : List Xt}, AllXt X es ts → ∀ t ∈ ts, t.ok X.K
  | _, _, .nil => by simp
  | _, _, .own _ _ _ _ g r => fun u hu => by
    rcases List.mem_cons.mp hu with rfl | hu
    · exact g
    · exact AllXt.ok r u hu
  | _, _, .bas _ _ _ g r => fun u hu => by
    rcases List.mem_cons.mp hu with rfl | hu
    · exact g
    · exact AllXt.ok r u hu
theorem pe_gref {x : Str} {p : Pos} {a : Addr} (hg : Gl X x) (hd : (x == ("__debug__" : Str)) = false) (hm : X.mg x = some (.ref a)) : PE X (.Name x p) (tC (.ref a)) :=
  ⟨fun pins s σ H Q I h => ld_glob I hg hm ⟨.ref a, H, I, rfl, h⟩ hd⟩
theorem pa_xts : ∀ {es : List Expr} {ts : List Xt}, AllXt X es ts → PA X es (tXts X.K ts)
  | _, _, .nil => pa_nil
  | _, _, .own h1 h2 h3 h4 _ r => pa_cons (pe_gref h2 h3 h4) (pa_xts r) rfl
  | _, _, .bas (x := x) (t := t) h1 h2 h3 h4 r => by
    have q := List.all_eq_true.mp xBas_boot t h4
    simp only [Bool.and_eq_true, Bool.not_eq_true', decide_eq_true_eq] at q
    subst h1
    exact pa_cons (pe_bltn h2 h3 q.1.1 rfl q.1.2 q.2) (pa_xts r) rfl
theorem xts_rd {K : PySem.W.Frag} {σ : L2.St} {H : Hp} : ∀ {ts : List Xt} {Q : List V → Hp → Prop}, Q (ts.map (Xt.v K)) H → tXts K ts σ H Q
  | [], _, q => q
  | t :: ts, _, q => xts_rd (ts := ts) q
theorem paired_xts (K : PySem.W.Frag) : ∀ ts : List Xt, Paired ClsV (ts.map (Xt.v K)) (ts.map (Xt.val K))
  | [] => .nil
  | t :: ts => .cons (cls_val K t) (paired_xts K ts)
theorem se_isx1 {e te : Expr} {ir : Ex} {f : Str} {t : Xt} {p pos : Pos} (hf : f = "isinstance") (hgf : Gl X f) (hmf : X.mg f = none) (hn : notStar e = true) (hnt : notStar te = true) (he : SE X w cl e ir) (ht : AllXt X [te] [t]) : SB X w cl (.Call (.Name f p) [e, te] [] pos) (.isx ir [t]) := by
  subst hf
  have hb : bootBuiltins "isinstance" = some (.builtin "isinstance") := by decide +kernel
  refine sb_of (PE.imp (pe_callB call_xis hgf hmf hb (pa_cons he (pa_xts ht) (star_cons hn)) (by decide) (by decide) (star_cons hn) (by rw [star_cons hnt] <;> rfl)) fun σ H Q ⟨m, σv, S, s, q⟩ => ?_) fun _ => rfl
  have q : Res X.K w m H σ ((ev cl ir σv S).bind fun x s => lift ((isxV [t] x).map .bl) s) fun x S' => Post X.K m H x S' Q := q
  refine rd_then s (q.bind.imp fun x S1 q1 m1 H1 v x1 s1 r1 => ?_)
  obtain ⟨z, S', e1, p⟩ := q1.ok (lift_noX _ _)
  obtain ⟨e2, rfl⟩ := lift_eq_ok e1
  obtain ⟨b, hb2, rfl⟩ := Option.map_eq_some_iff.mp e2
  obtain ⟨ty, g, k1, k2, rfl⟩ := xv_of r1 hb2 ht.ok
  refine xts_rd (ts := [t]) ⟨v, t.v X.K, ty, t.val X.K, g t, rfl, cls_val _ _, k1, k2 t List.mem_cons_self, ?_⟩
  have : [t].any g = g t := by simp
  rw [this] at p
  exact p m1 H1 _ x1 s1.h (.bl _)
theorem se_isxT {e : Expr} {ir : Ex} {f : Str} {ts : List Xt} {es : List Expr} {k : Nat} {p p2 pos : Pos} (hf : f = "isinstance") (hgf : Gl X f) (hmf : X.mg f = none) (hn : notStar e = true) (he : SE X w cl e ir) (ht : AllXt X es ts) (hl : ts.length ≤ 1000) : SB X w cl (.Call (.Name f p) [e, .Tuple es k p2] [] pos) (.isx ir ts) := by
  subst hf
  have hb : bootBuiltins "isinstance" = some (.builtin "isinstance") := by decide +kernel
  refine sb_of (PE.imp (pe_callB call_xisT hgf hmf hb (pa_cons he (pa_cons (pe_tup (pa_xts ht)) pa_nil) (star_cons hn)) (by decide) (by decide) (star_cons hn) (by rfl)) fun σ H Q ⟨m, σv, S, s, q⟩ => ?_) fun _ => rfl
  have q : Res X.K w m H σ ((ev cl ir σv S).bind fun x s => lift ((isxV ts x).map .bl) s) fun x S' => Post X.K m H x S' Q := q
  refine rd_then s (q.bind.imp fun x S1 q1 m1 H1 v x1 s1 r1 => ?_)
  obtain ⟨z, S', e1, p⟩ := q1.ok (lift_noX _ _)
  obtain ⟨e2, rfl⟩ := lift_eq_ok e1
  obtain ⟨b, hb2, rfl⟩ := Option.map_eq_some_iff.mp e2
  refine xts_rd (ts := ts) ⟨by rw [List.length_map, sizeLine_eq]; omega, fun q hq => ?_⟩
  have x2 : Ext m1 H1 m1 (upd H1 q (.tup (ts.map (Xt.v X.K)))) := Ext.new hq
  have h' := s1.h.new (o := .tup (ts.map (Xt.v X.K))) hq
  obtain ⟨ty, g, k1, k2, rfl⟩ := xv_of (r1.ext x2) hb2 ht.ok
  exact ⟨v, q, ts.map (Xt.v X.K), ty, ts.map (Xt.val X.K), ts.any g, rfl, upd_same, paired_xts _ ts, k1, kit_all k2, p m1 _ _ (x1.trans x2) h' (.bl _)⟩

/-! ### methods of lists -/
def okBase (o : Expr) : Bool := match o with
  | .Name .. => true
  | .Attribute .. => true
  | .Subscript .. => true
  | .Call (.Name ..) (_ :: _) _ _ => true
  | _ => false
theorem base_ok {o : Expr} {n : Str} (h : okBase o = true) : attributeBase o n X.env (eval o X.env) = eval o X.env := by
  unfold okBase at h
  split at h
  · rfl
  · rfl
  · rfl
  · rfl
  · cases h
theorem se_fld {e : Expr} {ir : Ex} {n : Str} {pos : Pos} (he : SE X w cl e ir) (hb : okBase e = true) : SB X w cl (.Attribute e n pos) (.fld ir n) := by
  refine sb_of (PE.imp (pe_xfd he (base_ok hb)) fun σ H Q ⟨m, σv, S, s, q⟩ => ?_) fun _ => rfl
  have q : Res X.K w m H σ ((ev cl ir σv S).bind fun x s => gFld n x s) fun x S' => Post X.K m H x S' Q := q
  refine rd_then s (q.bind.imp fun x S1 q1 m1 H1 v x1 s1 r1 => ?_)
  obtain ⟨z, S', e1, p⟩ := q1.ok (gFld_noX _ _ _)
  unfold gFld at e1
  split at e1
  · rename_i c y
    split at e1
    · rename_i hc
      cases e1
      cases r1 with
      | exc G h1 m1 h2 m2 r =>
        rw [hc] at h2
        exact ⟨_, _, c, _, rfl, G, hc, h1, h2, p _ _ _ x1 s1.h r⟩
    · cases e1
  · cases e1
theorem tyV_list {K : PySem.W.Frag} {m : Mp} {H : Hp} {S : Hs} {x : VV} {v : V} {xs : List VV} (h : SimH K m H S) (r : R K m H x v) (e : lstOf S x = some xs) : tyV K "list" v H := by
  obtain ⟨a, ys, rfl, ha, _⟩ := lst_rd h r e
  exact .inl ⟨rfl, _, SqL.of ha⟩
theorem sd_append (K : PySem.W.Frag) {m : Mp} {H : Hp} {S S' : Hs} {x z : VV} {v : V} {vs : List VV} {ws : List V} {Q : VK} (h : SimH K m H S) (r : R K m H x v) (t : Rs K m H vs ws) (e : bmV .append x vs S = .ok z S') (p : Post K m H z S' Q) : rAppend v ws H Q := by
  unfold bmV at e
  split at e <;> try contradiction
  obtain ⟨y, rfl, ry⟩ := t.one
  split at e
  · rename_i xs hx
    split at e
    · rename_i hl
      cases e
      cases r with
      | ref hk =>
        obtain ⟨ys, h1, h2⟩ := h.list hk hx
        refine ⟨_, ys, y, rfl, rfl, h1, by rw [← h2.length, ← szL_eq]; exact hl, ?_⟩
        exact p m _ _ (Ext.write (List.mem_of_getElem? hk)) (h.write hk (h2.append (.cons ry .nil))) .non
    · cases e
  · cases e
theorem sd_extend (K : PySem.W.Frag) {m : Mp} {H : Hp} {S S' : Hs} {x z : VV} {v : V} {vs : List VV} {ws : List V} {Q : VK} (h : SimH K m H S) (r : R K m H x v) (t : Rs K m H vs ws) (e : bmV .extend x vs S = .ok z S') (p : Post K m H z S' Q) : rExtend v ws H Q := by
  unfold bmV at e
  split at e <;> try contradiction
  obtain ⟨y, rfl, ry⟩ := t.one
  split at e
  · rename_i xs zs hx hy
    split at e
    · rename_i hl
      cases e
      obtain ⟨b, us, rfl, hb, tb⟩ := lst_rd h ry hy
      cases r with
      | ref hk =>
        obtain ⟨ys, h1, h2⟩ := h.list hk hx
        refine ⟨_, b, ys, us, rfl, rfl, h1, hb, by rw [← h2.length, ← tb.length, ← szL_eq]; exact hl, ?_⟩
        exact p m _ _ (Ext.write (List.mem_of_getElem? hk)) (h.write hk (h2.append tb)) .non
    · cases e
  · cases e
theorem sd_pop (K : PySem.W.Frag) {m : Mp} {H : Hp} {S S' : Hs} {x z : VV} {v : V} {vs : List VV} {ws : List V} {Q : VK} (h : SimH K m H S) (r : R K m H x v) (t : Rs K m H vs ws) (e : bmV .pop x vs S = .ok z S') (p : Post K m H z S' Q) : rPop v ws H Q := by
  unfold bmV at e
  split at e <;> try contradiction
  cases t
  split at e
  · rename_i xs hx
    split at e
    · rename_i y hy
      cases e
      cases r with
      | ref hk =>
        obtain ⟨ys, h1, h2⟩ := h.list hk hx
        obtain ⟨u, hu, ru⟩ := h2.get hy
        have ex := Ext.write (m := m) (H := H) (o := .lst ys.dropLast) (List.mem_of_getElem? hk)
        exact ⟨_, ys, u, rfl, rfl, h1, by rw [← h2.length]; exact hu, p m _ _ ex (h.write hk h2.dropLast) (ru.ext ex)⟩
    · cases e
  · cases e
theorem few_ok {es : List Expr} {cpos : Pos} (h : ∀ e ∈ es, notStar e = true) (hl : es.length < 30) : ((backTo cpos (starEach es X.env)).all (fun x => !x.1) && (backToKw cpos (keywordEach [] X.env)).all (fun x => x.1.isSome)
      && decide (es.length + ([] : List Keyword).length + (if ([] : List Keyword).isEmpty then 0 else 1) < 30)) = true := by
  have h1 : ∀ {es : List Expr}, (∀ e ∈ es, notStar e = true) → (backTo cpos (starEach es X.env)).all (fun x => !x.1) = true := by
    intro es
    induction es with
    | nil => intro _; rfl
    | cons e es ih =>
      intro h
      rw [star_cons (h e List.mem_cons_self)]
      show (true && (backTo cpos (starEach es X.env)).all (fun x => !x.1)) = true
      rw [ih fun e he => h e (List.mem_cons_of_mem _ he)]
      rfl
  rw [h1 h]
  show (true && true && decide (es.length + 0 + 0 < 30)) = true
  simpa using hl
theorem se_bm1 {b : Bm} {o e : Expr} {io : Ex} {irs : List Ex} {n : Str} {id : String} {apos cpos : Pos} {r : V → List V → Hp → VK → Prop} (pa : PlainAttrs "list") (slot : Slot "list" n id) (hty : typeOf (.builtin id) = pure (.type "method_descriptor")) (hm : MtR X id r)
    (hr : ∀ {m : Mp} {H : Hp} {S S' : Hs} {x z : VV} {v : V} {vs : List VV} {ws : List V} {Q : VK}, SimH X.K m H S → R X.K m H x v → Rs X.K m H vs ws → bmV b x vs S = .ok z S' → Post X.K m H z S' Q → r v ws H Q)
    (hb : ∀ v s u, bmTy b v s = some u → ∃ xs, lstOf s v = some xs) (ho : SE X w cl o io) (ha : SA X w cl [e] irs) (hn : notStar e = true) (hbase : okBase o = true) (hline : (apos.endLine == cpos.line) = true) : SB X w cl (.Call (.Attribute o n apos) [e] [] cpos) (.bm b io irs) := by
  refine sb_of (PE.imp (pe_bm pa slot hty hm ho ha (base_ok hbase) (few_ok (by simpa using hn) (Nat.lt_of_lt_of_le (Nat.lt_succ_self 1) (by decide : 2 ≤ 30))) hline (star_cons hn) (by rfl)) fun σ H Q ⟨m, σv, S, s, q⟩ => ?_) fun _ => rfl
  have q : Res X.K w m H σ ((ev cl io σv S).bind fun v s => (lift (bmTy b v s) s).bind fun _ s => (evs cl irs σv s).bind fun vs s => bmV b v vs s) fun x S' => Post X.K m H x S' Q := q
  refine rd_then s (q.bind.imp fun x S1 q1 m1 H1 v x1 s1 r1 => ?_)
  obtain ⟨u, S2, e1, q2⟩ := q1.bind.ok (lift_noX _ _)
  obtain ⟨e2, rfl⟩ := lift_eq_ok e1
  obtain ⟨xs, hx⟩ := hb _ _ _ e2
  refine ⟨tyV_list s1.h r1 hx, rd_thenA s1 ((q2.bind.ext x1).imp fun vs S3 q3 m2 H2 ws x2 s2 t2 => ?_)⟩
  obtain ⟨z, S', e3, p⟩ := q3.ok (bmV_noX _ _ _ _)
  exact hr s2.h (r1.ext x2) t2 e3 ((p.ext x1).ext x2)
theorem se_bm0 {b : Bm} {o : Expr} {io : Ex} {n : Str} {id : String} {apos cpos : Pos} {r : V → List V → Hp → VK → Prop} (pa : PlainAttrs "list") (slot : Slot "list" n id) (hty : typeOf (.builtin id) = pure (.type "method_descriptor")) (hm : MtR X id r)
    (hr : ∀ {m : Mp} {H : Hp} {S S' : Hs} {x z : VV} {v : V} {vs : List VV} {ws : List V} {Q : VK}, SimH X.K m H S → R X.K m H x v → Rs X.K m H vs ws → bmV b x vs S = .ok z S' → Post X.K m H z S' Q → r v ws H Q)
    (hb : ∀ v s u, bmTy b v s = some u → ∃ xs, lstOf s v = some xs) (ho : SE X w cl o io) (hbase : okBase o = true) (hline : (apos.endLine == cpos.line) = true) : SB X w cl (.Call (.Attribute o n apos) [] [] cpos) (.bm b io []) := by
  refine sb_of (PE.imp (pe_bm0 pa slot hty hm ho (base_ok hbase) hline) fun σ H Q ⟨m, σv, S, s, q⟩ => ?_) fun _ => rfl
  have q : Res X.K w m H σ ((ev cl io σv S).bind fun v s => (lift (bmTy b v s) s).bind fun _ s => (evs cl [] σv s).bind fun vs s => bmV b v vs s) fun x S' => Post X.K m H x S' Q := q
  refine rd_then s (q.bind.imp fun x S1 q1 m1 H1 v x1 s1 r1 => ?_)
  obtain ⟨u, S2, e1, q2⟩ := q1.bind.ok (lift_noX _ _)
  obtain ⟨e2, rfl⟩ := lift_eq_ok e1
  obtain ⟨xs, hx⟩ := hb _ _ _ e2
  have q3 : Res X.K w m H σ (bmV b x [] S2) fun x S' => Post X.K m H x S' Q := q2
  obtain ⟨z, S', e3, p⟩ := q3.ok (bmV_noX _ _ _ _)
  exact ⟨tyV_list s1.h r1 hx, hr s1.h r1 .nil e3 (p.ext x1)⟩
theorem sd_count (K : PySem.W.Frag) {m : Mp} {H : Hp} {S S' : Hs} {x z : VV} {v : V} {vs : List VV} {ws : List V} {Q : VK} (h : SimH K m H S) (r : R K m H x v) (t : Rs K m H vs ws) (e : bmV .count x vs S = .ok z S') (p : Post K m H z S' Q) : rCntI K v ws H Q := by
  unfold bmV at e
  split at e <;> try contradiction
  obtain ⟨y, rfl, ry⟩ := t.one
  cases ry
  obtain ⟨e1, rfl⟩ := lift_eq_ok e
  obtain ⟨ns, hns, rfl⟩ := Option.map_eq_some_iff.mp e1
  obtain ⟨xs, hx, hi⟩ := Option.bind_eq_some_iff.mp hns
  obtain ⟨a, ys, rfl, ha, ty⟩ := lst_rd h r hx
  have := Rs.ints hi ty
  subst this
  exact ⟨a, ns, _, rfl, rfl, SqL.of ha, p m H _ Ext.refl h (.int _)⟩
/-- which methods, by their names -/
def bm1Of (n : Str) : Option Bm := if n = "append" then some .append else if n = "extend" then some .extend else if n = "count" then some .count else none
def bm0Of (n : Str) : Option Bm := if n = "pop" then some .pop else none
theorem se_bm1_of {b : Bm} {o e : Expr} {io : Ex} {irs : List Ex} {n : Str} {apos cpos : Pos} (hb : bm1Of n = some b) (ho : SE X w cl o io) (ha : SA X w cl [e] irs) (hn : notStar e = true) (hbase : okBase o = true) (hline : (apos.endLine == cpos.line) = true) : SB X w cl (.Call (.Attribute o n apos) [e] [] cpos) (.bm b io irs) := by
  unfold bm1Of at hb
  split at hb
  · rename_i hn'
    cases hb
    subst hn'
    exact se_bm1 F.plainAttrs_list F.slot_list_append F.type_list_append mt_append (sd_append X.K) (fun v s u h => let ⟨xs, h1, _⟩ := Option.map_eq_some_iff.mp h; ⟨xs, h1⟩) ho ha hn hbase hline
  · split at hb
    · rename_i hn'
      cases hb
      subst hn'
      exact se_bm1 F.plainAttrs_list F.slot_list_extend F.type_list_extend mt_extend (sd_extend X.K) (fun v s u h => let ⟨xs, h1, _⟩ := Option.map_eq_some_iff.mp h; ⟨xs, h1⟩) ho ha hn hbase hline
    · split at hb
      · rename_i hn'
        cases hb
        subst hn'
        exact se_bm1 F.plainAttrs_list F.slot_list_count F.type_list_count mt_lcount (sd_count X.K) (fun v s u h => let ⟨xs, h1, _⟩ := Option.map_eq_some_iff.mp h; ⟨xs, h1⟩) ho ha hn hbase hline
      · cases hb
theorem se_bm0_of {b : Bm} {o : Expr} {io : Ex} {n : Str} {apos cpos : Pos} (hb : bm0Of n = some b) (ho : SE X w cl o io) (hbase : okBase o = true) (hline : (apos.endLine == cpos.line) = true) : SB X w cl (.Call (.Attribute o n apos) [] [] cpos) (.bm b io []) := by
  unfold bm0Of at hb
  split at hb
  · rename_i hn'
    cases hb
    subst hn'
    exact se_bm0 F.plainAttrs_list F.slot_list_pop F.type_list_pop mt_pop (sd_pop X.K) (fun v s u h => let ⟨xs, h1, _⟩ := Option.map_eq_some_iff.mp h; ⟨xs, h1⟩) ho hbase hline
  · cases hb

/-! ### calls of defs -/
abbrev Rx := Mp → Hp → VV → Value → Option Ad → Prop
/-- the promise of a def: what the interpreter says -/
def spIR (K : PySem.W.Frag) (rx : Rx) (cl : Cl) (id : String) (ar : Nat) : Sp := fun vs H Q E => ∃ (keep : Bool) (m : Mp) (S : Hs) (xs : List VV), xs.length = ar ∧ SimH K m H S ∧ Rs K m H xs vs ∧
  Res K ⟨fun c d _ H' => E c d H', rx⟩ m H [] (cl keep id xs S) fun x S' => Post K m H x S' Q
structure CallOk (X : Cx) (rx : Rx) (cl : Cl) (x : Str) (id : String) (ps : List Str) : Prop where
  ex : ∃ (k : Nat) (f : Addr) (fd : FuncData), FnG X.prog X.w X.K X.mg X.base (L2.CX X.prog X.w) k f fd ps (spIR X.K rx cl id ps.length) ∧ FdOk fd ps ∧ Room k X.A ∧ X.mg x = some (.ref f) ∧ PySem.W.keepIn X.K (.ref f) = true
theorem evs_append (irs irs2 : List Ex) (σ : Sv) (s : Hs) : evs cl (irs ++ irs2) σ s = (evs cl irs σ s).bind fun xs s => (evs cl irs2 σ s).bind fun ys s => .ok (xs ++ ys) s := by
  induction irs generalizing s with
  | nil =>
    show evs cl irs2 σ s = (Out.ok [] s).bind _
    simp only [Out.bind_ok, List.nil_append]
    cases evs cl irs2 σ s <;> rfl
  | cons i irs ih =>
    show (ev cl i σ s).bind _ = ((ev cl i σ s).bind _).bind _
    rw [Out.bind_assoc]
    congr 1
    funext v s1
    show (evs cl (irs ++ irs2) σ s1).bind _ = _
    rw [ih, Out.bind_assoc, Out.bind_assoc]
    congr 1
    funext xs s2
    rw [Out.bind_assoc]
    simp only [Out.bind_ok]
    rfl
def SK (X : Cx) (w : Wish) (cl : Cl) (kws : List Keyword) (irs : List Ex) : Prop := PK X kws (rdA X.K w (evs cl irs))
theorem sk_nil : SK X w cl [] [] := ⟨fun pos pins s σ H Q I ⟨m, σv, S, s', e⟩ => pk_nil.run pos pins s σ H Q I (by
  have e : Posts X.K m H [] S Q := e
  exact e m H [] Ext.refl s'.h .nil)⟩
theorem sk_cons {nm : Option Str} {e : Expr} {kpos : Pos} {kws : List Keyword} {ir : Ex} {irs : List Ex} (h : SE X w cl e ir) (t : SK X w cl kws irs) : SK X w cl (⟨nm, e, kpos⟩ :: kws) (ir :: irs) :=
  ⟨fun pos pins s0 σ H Q I ⟨m, σv, S, s, q⟩ => (pk_cons (nm := nm) (kpos := kpos) h t).run pos pins s0 σ H Q I (by
    have q : Res X.K w m H σ ((ev cl ir σv S).bind fun v s => (evs cl irs σv s).bind fun vs s => .ok (v :: vs) s) _ := q
    refine rd_then s (q.bind.imp fun x S1 q1 m1 H1 v x1 s1 r1 => rd_thenA s1 ((q1.bind.ext x1).imp fun xs S2 q2 m2 H2 vs x2 s2 r2 => ?_))
    have q2 : Posts X.K m H (x :: xs) S2 Q := q2
    exact q2 m2 H2 (v :: vs) (x1.trans x2) s2.h (.cons (r1.ext x2) r2))⟩
theorem kw_all {pos : Pos} : ∀ {kws : List Keyword}, (∀ k ∈ kws, k.arg.isSome = true) → (backToKw pos (keywordEach kws X.env)).all (·.1.isSome) = true ∧ (backToKw pos (keywordEach kws X.env)).any (·.1.isNone) = false ∧
    (backToKw pos (keywordEach kws X.env)).filterMap (·.1) = kws.filterMap (·.arg)
  | [], _ => ⟨rfl, rfl, rfl⟩
  | ⟨nm, v, kp⟩ :: kws, h => by
    obtain ⟨h1, h2, h3⟩ := kw_all (pos := pos) (kws := kws) fun k hk => h k (List.mem_cons_of_mem _ hk)
    have h0 : nm.isSome = true := h ⟨nm, v, kp⟩ List.mem_cons_self
    obtain ⟨n, rfl⟩ := Option.isSome_iff_exists.mp h0
    refine ⟨?_, ?_, ?_⟩
    · show (true && (backToKw pos (keywordEach kws X.env)).all (·.1.isSome)) = true
      rw [h1]; rfl
    · show (false || (backToKw pos (keywordEach kws X.env)).any (·.1.isNone)) = false
      rw [h2]; rfl
    · show n :: (backToKw pos (keywordEach kws X.env)).filterMap (·.1) = n :: kws.filterMap (·.arg)
      rw [h3]
theorem Rs.pick {K : PySem.W.Frag} {m : Mp} {H : Hp} (perm : List Nat) {xs : List VV} {vs : List V} (t : Rs K m H xs vs) : Rs K m H (pick perm xs) (pick perm vs) := by
  induction perm with
  | nil => exact .nil
  | cons i perm ih =>
    unfold Tw.pick at ih ⊢
    rw [List.filterMap_cons, List.filterMap_cons]
    cases e1 : xs[i]? with
    | none =>
      have : vs[i]? = none := List.getElem?_eq_none_iff.mpr (by rw [← t.length]; exact List.getElem?_eq_none_iff.mp e1)
      rw [this]
      exact ih
    | some a =>
      obtain ⟨b, hb, rb⟩ := t.get e1
      rw [hb]
      exact .cons rb ih
theorem perm_len {ps : List Str} {np : Nat} {ks : List Str} {perm : List Nat} (h : permOf ps np ks = some perm) : np + ks.length = ps.length ∧ ∀ {α : Type} {xs : List α}, xs.length = ps.length → (pick perm xs).length = ps.length := by
  unfold permOf at h
  split at h
  · rename_i hc
    obtain ⟨c1, c2, c3, c4, c5, c6⟩ := hc
    cases h
    refine ⟨by rw [List.length_append, List.length_take] at c4; omega, fun {α xs} hx => ?_⟩
    have : ∀ qs : List Str, (∀ p ∈ qs, p ∈ ps.take np ++ ks) → (pick (qs.map fun p => (ps.take np ++ ks).idxOf p) xs).length = qs.length := by
      intro qs
      induction qs with
      | nil => intro _; rfl
      | cons q qs ih =>
        intro hq
        have h1 := List.idxOf_lt_length_of_mem (hq q List.mem_cons_self)
        have h2 : (ps.take np ++ ks).idxOf q < xs.length := by omega
        have ih := ih fun p hp => hq p (List.mem_cons_of_mem _ hp)
        unfold pick at ih ⊢
        rw [List.map_cons, List.filterMap_cons, List.getElem?_eq_getElem h2]
        exact congrArg (· + 1) ih
    exact this ps fun p hp => by simpa using List.all_eq_true.mp c5 p hp
  · cases h
theorem kw_len : ∀ {kws : List Keyword}, (∀ k ∈ kws, k.arg.isSome = true) → (kws.filterMap (·.arg)).length = kws.length
  | [], _ => rfl
  | a :: kws, hk => by
    obtain ⟨n, hn⟩ := Option.isSome_iff_exists.mp (hk a List.mem_cons_self)
    rw [List.filterMap_cons, hn]
    exact congrArg (· + 1) (kw_len fun k h => hk k (List.mem_cons_of_mem _ h))
theorem call_core {x : Str} {id : String} {ps ks : List Str} {perm : List Nat} {p pos : Pos} {es : List Expr} {kws : List Keyword} {irs irs2 : List Ex} {keep : Bool} {α : Type} (tk : Takes X w.W) (hgu : X.A.guards = some []) (F : CallOk X w.rx cl x id ps) (hgl : Gl X x) (hd : (x == ("__debug__" : Str)) = false)
    (hs : ∀ e ∈ es, notStar e = true) (hk : ∀ k ∈ kws, k.arg.isSome = true) (hks : kws.filterMap (·.arg) = ks) (hp : permOf ps es.length ks = some perm) (ha : SA X w cl es irs) (hkw : SK X w cl kws irs2) (h1 : irs.length = es.length) (h2 : irs2.length = kws.length) :
    PE X (.Call (.Name x p) es kws pos) (rdE X.K w fun σ s => (evs cl (irs ++ irs2) σ s).bind fun vs s => cl keep id (pick perm vs) s) := by
  obtain ⟨k, f, fd, FG, hf, hr, hm, hkp⟩ := F.ex
  obtain ⟨ka, kn, kf⟩ := kw_all (X := X) (pos := pos) hk
  have lenA : ∀ {es : List Ex} {σ : Sv} {s s' : Hs} {xs : List VV}, evs cl es σ s = .ok xs s' → xs.length = es.length := by
    intro es
    induction es with
    | nil => intro σ s s' xs e; cases e; rfl
    | cons i es ih =>
      intro σ s s' xs e
      obtain ⟨v, s1, e1, e⟩ := Out.bind_eq_ok (show (ev cl i σ s).bind _ = _ from e)
      obtain ⟨vs, s2, e2, e⟩ := Out.bind_eq_ok e
      cases e
      rw [List.length_cons, ih e2, List.length_cons]
  refine ⟨fun pins s σ H Q I ⟨m, σv, S, st, q⟩ => ?_⟩
  refine wpAny_Call_Name_kw (ld_glob I hgl hm ?_ hd)
  have q : Res X.K w m H σ ((evs cl (irs ++ irs2) σv S).bind fun vs s => cl keep id (pick perm vs) s) fun x S' => Post X.K m H x S' Q := q
  rw [evs_append, Out.bind_assoc] at q
  -- what is wanted behind the positional arguments
  have body : ∀ us s1, AP X pins σ (fun vs H1 => rdA X.K w (evs cl irs2) σ H1 fun zs H2 => vs.length = es.length ∧ zs.length = kws.length ∧ spIR X.K w.rx cl id ps.length (pick perm (vs ++ zs)) H2 Q fun c d H' => w.W c d σ H') us s1 →
      wpAny (model X.prog X.w) X.A (evalAll ((backToKw pos (keywordEach kws X.env)).map (·.2))) (fun ws s2 => X.K.In s2.heap ∧ wpAny (model X.prog X.w) X.A (PySem.call (.ref f) us (((backToKw pos (keywordEach kws X.env)).filterMap (·.1)).zip ws)) (EP X pins σ Q) X.xe s2) X.xe s1 := by
    rintro us s1 ⟨vs, H1, I1, r1, q1⟩
    refine thn (hkw.run pos pins s1 σ H1 _ I1 q1) fun ws s2 ⟨zs, H2, I2, rz, l1, l2, q2⟩ => ⟨I2.kIn, ?_⟩
    rw [kf, hks]
    refine run_kw FG hf hr hgu (fun e s' hq => tk e s' (XE.of_call I2 (fun _ _ _ z => z) hq)) ?_ ?_ I2 r1 rz q2
    · rw [← r1.length, l1]; exact hp
    · rw [← rz.length, l2, ← hks, kw_len hk]
  have red : rdA X.K w (evs cl irs) σ H fun vs H1 => rdA X.K w (evs cl irs2) σ H1 fun zs H2 => vs.length = es.length ∧ zs.length = kws.length ∧ spIR X.K w.rx cl id ps.length (pick perm (vs ++ zs)) H2 Q fun c d H' => w.W c d σ H' := by
    refine rd_thenA st ?_
    have q' := q.bind
    cases e1 : evs cl irs σv S with
    | bad => rw [e1] at q'; exact q'.elim
    | exc v s1 => rw [e1] at q'; exact q'
    | ok xs S1 =>
      rw [e1] at q'
      intro m1 H1 vs x1 s1 r1
      have q1 : Res X.K w m H σ (((evs cl irs2 σv S1).bind fun ys s => .ok (xs ++ ys) s).bind fun vs s => cl keep id (pick perm vs) s) _ := q'
      rw [Out.bind_assoc] at q1
      refine rd_thenA s1 ?_
      have q2 := (q1.bind.ext x1)
      cases e2 : evs cl irs2 σv S1 with
      | bad => rw [e2] at q2; exact q2.elim
      | exc v s2 => rw [e2] at q2; exact q2
      | ok ys S2 =>
        rw [e2] at q2
        intro m2 H2 zs x2 s2 r2
        have q3 : Res X.K w m H σ (cl keep id (pick perm (xs ++ ys)) S2) fun x S' => Post X.K m H x S' Q := q2
        have lx := lenA e1
        have ly := lenA e2
        have lv := r1.length
        have lz := r2.length
        refine ⟨by omega, by omega, keep, m2, S2, pick perm (xs ++ ys), ?_, s2.h, Rs.pick perm ((r1.ext x2).append r2), ?_⟩
        · refine (perm_len hp).2 ?_
          have := (perm_len hp).1
          have hkl : ks.length = kws.length := by rw [← hks, kw_len hk]
          rw [List.length_append]
          omega
        · have q4 := ((q3.ext x1).ext x2).imp fun z S' (p : Post X.K m H z S' Q) => Post.ext x2 (Post.ext x1 p)
          cases e3 : cl keep id (pick perm (xs ++ ys)) S2 with
          | bad => rw [e3] at q4; exact q4.elim
          | ok z S3 => rw [e3] at q4; exact q4
          | exc z S3 => rw [e3] at q4; exact q4
  cases es with
  | nil =>
    refine PySem.W.callWith_KW0 (h₀ := X.base) I.ok.mod.kin hkp ka ?_ (by rw [kn]; rfl)
    cases irs with
    | cons _ _ => cases h1
    | nil =>
      obtain ⟨m2, σ2, S2, st2, q2⟩ := red
      have q2 : Posts X.K m2 H [] S2 _ := q2
      exact body [] s ⟨[], H, I, .nil, q2 m2 H [] Ext.refl st2.h .nil⟩
  | cons e es =>
    refine PySem.W.callWith_KW (h₀ := X.base) I.ok.mod.kin hkp ka ?_ ?_ (star_cons (hs e List.mem_cons_self))
    · exact thn (ha.run pos pins s σ H _ I red) fun us s1 z => body us s1 z
    · rw [kn, star_plain hs]; rfl
theorem se_callk {x : Str} {id : String} {ps ks : List Str} {perm : List Nat} {p pos : Pos} {es : List Expr} {kws : List Keyword} {irs irs2 : List Ex} {keep : Bool} (tk : Takes X w.W) (hgu : X.A.guards = some []) (F : CallOk X w.rx cl x id ps) (hgl : Gl X x) (hd : (x == ("__debug__" : Str)) = false)
    (hs : ∀ e ∈ es, notStar e = true) (hk : ∀ k ∈ kws, k.arg.isSome = true) (hks : kws.filterMap (·.arg) = ks) (hp : permOf ps es.length ks = some perm) (ha : SA X w cl es irs) (hkw : SK X w cl kws irs2) (h1 : irs.length = es.length) (h2 : irs2.length = kws.length) :
    SB X w cl (.Call (.Name x p) es kws pos) (.callk keep id perm (irs ++ irs2)) :=
  sb_of (PE.imp (call_core (α := Unit) (keep := keep) tk hgu F hgl hd hs hk hks hp ha hkw h1 h2) fun σ H Q q => q) fun _ => rfl
theorem se_call {x : Str} {id : String} {ps : List Str} {p pos : Pos} {es : List Expr} {irs : List Ex} {keep : Bool} (tk : Takes X w.W) (hgu : X.A.guards = some []) (F : CallOk X w.rx cl x id ps) (hgl : Gl X x) (hd : (x == ("__debug__" : Str)) = false)
    (hs : ∀ e ∈ es, notStar e = true) (hp : permOf ps es.length [] = some (List.range es.length)) (ha : SA X w cl es irs) (h1 : irs.length = es.length) :
    SB X w cl (.Call (.Name x p) es [] pos) (.call keep id irs) := by
  refine sb_of (PE.imp (call_core (α := Unit) (keep := keep) tk hgu F hgl hd hs (by simp) rfl hp ha sk_nil h1 rfl) fun σ H Q ⟨m, σv, S, s, q⟩ => ⟨m, σv, S, s, ?_⟩) fun _ => rfl
  have q : Res X.K w m H σ ((evs cl irs σv S).bind fun vs s => cl keep id vs s) fun x S' => Post X.K m H x S' Q := q
  rw [List.append_nil]
  refine Res.of_bind ?_
  have lenA : ∀ {es : List Ex} {σ : Sv} {s s' : Hs} {xs : List VV}, evs cl es σ s = .ok xs s' → xs.length = es.length := by
    intro es
    induction es with
    | nil => intro σ s s' xs e; cases e; rfl
    | cons i es ih =>
      intro σ s s' xs e
      obtain ⟨v, s1, e1, e⟩ := Out.bind_eq_ok (show (ev cl i σ s).bind _ = _ from e)
      obtain ⟨vs, s2, e2, e⟩ := Out.bind_eq_ok e
      cases e
      rw [List.length_cons, ih e2, List.length_cons]
  have q' := q.bind
  cases e1 : evs cl irs σv S with
  | bad => rw [e1] at q'; exact q'.elim
  | exc v s1 => rw [e1] at q'; exact q'
  | ok xs S1 =>
    rw [e1] at q'
    have q2 : Res X.K w m H σ (cl keep id xs S1) _ := q'
    show Res X.K w m H σ (cl keep id (pick (List.range es.length) xs) S1) _
    rw [pick_take, List.take_of_length_le (by rw [lenA e1, h1]; exact Nat.le_refl _)]
    exact q2
end
end Tw
set_option Elab.async false
set_option linter.all false
set_option autoImplicit false
set_option maxRecDepth 100000
/-! TwEnum: enumerate of a tuple. -/
namespace Tw
open PySem PySem.Spec PyProof.Rows L2
theorem enum_newB {v : Value} {o : Obj} {H : Heap → Prop} (B : Begins v o H) :
    Meets (Builtin.«enumerate.__new__» ⟨[.type "enumerate", v], []⟩) (fun _ R s => H s.heap ∧
      R (.ok (.ret (.ref (s.heap.push o).objs.size))) { s with heap := (s.heap.push o).push { cls := .type "enumerate", data := .fields #[.none, .bool false, .ref s.heap.objs.size, rawInt 0, .none, .none] } }) :=
  .of_wp fun prog w A R s h => by
    obtain ⟨hp, g, d, tk, os⟩ := s
    obtain ⟨ho, hr⟩ := h
    have sub := sub_enumerate
    have it : ∀ {A' : Around} {E : Value → Shared → Prop} {Q : Value → Shared → Prop}, Q (.ref hp.objs.size) ⟨hp.push o, g, d, tk, os⟩ → wpAny (model prog w) A' (pyIter v) Q E ⟨hp, g, d, tk, os⟩ := fun q => B.iter prog w _ _ ⟨hp, g, d, tk, os⟩ _ ho q
    wp_walk using it
    refine wpAny_stack_any fun st => wpAny_pure ?_
    split
    · rename_i c _ _ _ _ _
      cases (c == Value.type "enumerate") <;> (wp_walk using it; exact ⟨_, rfl, hr⟩)
    · wp_walk using it
      exact ⟨_, rfl, hr⟩
section
variable {prog : Program} {w : World} {A : Around} {E : Value → Shared → Prop} {s : Shared}
theorem enum_begin1 {v : Value} {o : Obj} {H : Heap → Prop} {Q : Value → Shared → Prop} (B : Begins v o H) (h1 : H s.heap)
    (h : ∀ h', IsEnum h' (s.heap.objs.size + 1) s.heap.objs.size 0 .none → h'.get? s.heap.objs.size = some o → (∀ b u, s.heap.get? b = some u → h'.get? b = some u) → Q (.ref (s.heap.objs.size + 1)) { s with heap := h' }) :
    wpAny (model prog w) A (call (.type "enumerate") [v]) Q E s := by
  refine callType_new F.called_enumerate (by decide) (F.typeCall_enumerate_1 _) (F.newCall_enumerate_1 _) (fun obj => F.args_object_init_2 obj _) F.entry_enumerate_new (enum_newB B) ⟨h1, ?_⟩
  have sz : (s.heap.push o).objs.size = s.heap.objs.size + 1 := Heap.size_push ..
  show _ ∧ _
  rw [sz]
  have at1 := Heap.get?_push_size (s.heap.push o) (o := { cls := .type "enumerate", data := .fields #[.none, .bool false, .ref s.heap.objs.size, rawInt 0, .none, .none] }) rfl
  rw [sz] at at1
  exact ⟨⟨_, at1, rfl⟩, h _ at1 (Heap.get?_push_of_some _ (Heap.get?_push_size _ B.free)) fun b u e => Heap.get?_push_of_some _ (Heap.get?_push_of_some _ e)⟩
end
/-- the tuple at a, each item in a new pair -/
def IteT (K : PySem.W.Frag) (a : Addr) : L2.It :=
  ⟨fun i H => ∃ (xs : List V) (x : V), SqT K H a xs ∧ xs[i]? = some x, fun i H v H' => ∃ T x, v = .ref T ∧ H T = none ∧ H' = upd H T (.tup [.int (i : Nat), x]) ∧ ∀ xs, SqT K H a xs → xs[i]? = some x, fun i H => ∃ xs : List V, SqT K H a xs ∧ xs.length ≤ i⟩
theorem turn_enumT {P : Program} {w : World} {K : PySem.W.Frag} {elts : List Expr} {kk : Nat} {tpos : Pos} (a e it : Addr) :
    Turn P w K (.Tuple elts kk tpos) (IteT K a) [e, it] e (fun i h => (∃ old, IsEnum h e it ((i : Nat) : Int) old) ∧ h.IsTupleIter it a i ∧ e ≠ it) where
  mem := by simp
  obj := fun i h st b hb => by
    obtain ⟨⟨old, he⟩, ⟨o, ho, hc, hd⟩, _⟩ := st
    rcases (show b = e ∨ b = it by simpa using hb) with rfl | rfl
    · exact ⟨_, he, fun v q => nomatch q⟩
    · exact ⟨o, ho, fun v q => by rw [hd] at q; cases q⟩
  keep := fun i h h' st k => by
    obtain ⟨⟨old, he⟩, hi, hne⟩ := st
    exact ⟨⟨old, k e (by simp) _ he⟩, hi.at fun o q => k it (by simp) o q, hne⟩
  item := by
    intro X hP hw hK hc i pins s σ H E I hf st hg
    subst hP hw hK
    obtain ⟨⟨old, he⟩, hit, hne⟩ := st
    obtain ⟨xs, x, hq, hx⟩ := hg
    obtain ⟨its, rv, p, hz⟩ := I.tuple hq
    obtain ⟨u, hu, ru⟩ := rv.get hx
    have hel : e < s.heap.objs.size := Heap.lt_size he
    have hil : it < s.heap.objs.size := by obtain ⟨_, q, _⟩ := hit; exact Heap.lt_size q
    have tupIs : s.heap.IsTuple a its.toArray := p
    have ait : a ≠ it := fun z => by
      subst z
      obtain ⟨o1, g1, c1, _⟩ := hit
      obtain ⟨o2, g2, c2, _⟩ := tupIs
      rw [g1] at g2
      cases g2
      rw [c1] at c2
      simp at c2
    have aie : a ≠ e := fun z => by
      subst z
      obtain ⟨o2, g2, c2, _⟩ := tupIs
      have he : s.heap.get? a = some _ := he
      rw [he] at g2
      cases g2
      simp at c2
    have D := Draws.tuple (prog := X.prog) (w := X.w) (A := X.A.in1) (show X.A.in1.handled = none from I.ok.hd hc) it a ait its.toArray
    have lt : i < its.toArray.size := by
      have := (List.getElem?_eq_some_iff.mp hu).1
      simpa using this
    refine wpAny_pyNext_enum_itemD D he ⟨hit, tupIs⟩ lt hne (by simp [Ne.symm aie, hne]) fun y h' tk hy ho st' hT hsz hk => ?_
    have ey : y = u := by
      have hy : its.toArray[i]? = some y := hy
      rw [List.getElem?_toArray, hu] at hy
      exact (Option.some.inj hy).symm
    subst ey
    refine ⟨_, rfl, wpAny_letOwnedTupleGo_enum (s := { s with heap := h', toks := tk + 1 }) ho fun h'' he' sb => ?_⟩
    have hT2 : h''.get? s.heap.objs.size = some { cls := .type "tuple", data := .seq #[.int i tk, y] } := (sb.2 _ (Nat.ne_of_gt hel)).trans hT
    have new : ObjOk X.prog X.w (upd H s.heap.objs.size (.tup [.int (i : Nat), x])) h'' s.heap.objs.size (.tup [.int (i : Nat), x]) :=
      ⟨by show 2 ≤ sizeLine; decide, [.int i tk, y], .cons ⟨_, rfl⟩ (.cons ru .nil), ⟨_, hT2, rfl, _, rfl⟩⟩
    have I1 : Inv X pins σ (upd H s.heap.objs.size (.tup [.int (i : Nat), x])) { s with heap := h'', toks := tk + 1 } :=
      I.turnedNew (ch := [e, it]) (fun b ob hb q => (sb.2 b (fun z => hb (by simp [z]))).trans (hk b ob (fun z => hb (by simp [z])) (fun z => hb (by simp [z])) q)) hf (Nat.le_refl _) new
    refine ⟨.ref s.heap.objs.size, _, I1, rfl, ⟨_, x, rfl, I.hok.fresh (Nat.le_refl _), rfl, fun ys hy => by rw [I.tuple_inj hy hq]; exact hx⟩, ⟨⟨y, ?_⟩, st'.1.at fun o q => (sb.2 it (Ne.symm hne)).trans q, hne⟩, fun b hb => ?_⟩
    · rw [show ((i + 1 : Nat) : Int) = (i : Int) + 1 by omega]
      exact he'
    · have lt' : b < s.heap.objs.size := by
        rcases (show b = e ∨ b = it by simpa using hb) with rfl | rfl
        · exact hel
        · exact hil
      rw [upd_ne (Nat.ne_of_lt lt')]
      exact (hf b hb).1
  done := by
    intro X hP hw hK hc i pins s σ H E I hf st hg
    subst hP hw hK
    obtain ⟨⟨old, he⟩, hit, hne⟩ := st
    obtain ⟨xs, hq, hx⟩ := hg
    obtain ⟨its, rv, p, hz⟩ := I.tuple hq
    obtain ⟨f0, f1, f2, f3, f4, f5⟩ := hf it (by simp)
    have hl := rv.length
    have tupIs : s.heap.IsTuple a its.toArray := p
    have ty : s.TypeIs (.ref e) "enumerate" := ⟨_, he, rfl⟩
    unfold pyNext
    refine wpAny_bind (wpAny_attempt (wpAny_callSpecial?_slot (name := Str.ofString "__next__") ty F.slot_enumerate_next (wpAny_call_entry F.slot_enumerate_next ty F.entry_enumerate_next (show wpAny _ _ (field (.ref e) 2 >>= _) _ _ _ from ?_) (F.args_enumerate_next_1 _))))
    refine wpAny_bind (wpAny_field he rfl (x := .ref it) rfl (wpAny_bind (wpAny_nextOf_tuple_end (show X.A.in1.handled = none from I.ok.hd hc) hit tupIs (by simp; omega) fun h' x eb hx' => ?_)))
    obtain ⟨ob, hob, cob⟩ := hx'
    exact wpAny_bind (wpAny_isInstance (T := "StopIteration") (b := true) ⟨ob, hob, cob⟩ isSubtype_stop (wpAny_pure ⟨rfl, I.turned (t' := s.toks) (fun b o hb q => eb b o hb q) f0 f1 f3 f4 f5⟩))
  self := fun A i s Q E st h => let ⟨⟨_, he⟩, _⟩ := st; wpAny_pyIter_enum he h
/-- enumerate of a list or of a tuple -/
def iEnumA (K : PySem.W.Frag) (ta : TA) : TI := fun σ H R => ta σ H fun vs H1 => ∃ a xs, vs = [.ref a] ∧ ((SqL K H1 a xs ∧ R (Ite K a) H1) ∨ (SqT K H1 a xs ∧ R (IteT K a) H1))
theorem pi_enumA {X : Cx} {e : Expr} {ta : TA} {p pos tpos : Pos} {elts : List Expr} {kk : Nat} (hg : Gl X "enumerate") (hm : X.mg "enumerate" = none) (ha : PA X [e] ta) (hs : starEach [e] X.env = [(false, eval e X.env)]) :
    PI X (.Tuple elts kk tpos) (.Call (.Name "enumerate" p) [e] [] pos) (iEnumA X.K ta) := by
  refine ⟨fun pins s σ H R I h => Call_ (ld_blt I hg hm boot_enumerate (PyProof.Rows.callWith_type1 (thn (ha.run pos pins s σ H _ I h) fun us s1 q1 => ?_) hs rfl))⟩
  obtain ⟨vs, H1, I1, r1, a, xs, rfl, q⟩ := q1
  have rr := Vals.ref1 r1
  subst rr
  have fresh : ∀ b ∈ [s1.heap.objs.size + 1, s1.heap.objs.size], FpOk X pins H1 b := fun b hb => by
    have le : s1.heap.objs.size ≤ b := by
      rcases (show b = s1.heap.objs.size + 1 ∨ b = s1.heap.objs.size by simpa using hb) with rfl | rfl
      · exact Nat.le_add_right _ _
      · exact Nat.le_refl _
    exact I1.fpOk le (I1.hok.fresh le)
  rcases q with ⟨hq, q⟩ | ⟨hq, q⟩
  · obtain ⟨its, rv, pl, hz⟩ := I1.list hq
    refine call_enumerate_list pl.isList fun h' he hit hsz hk => wpAny_pyIter_enum he ?_
    exact ⟨s1.heap.objs.size + 1, _, _, _, H1, rfl, I1.kept (t' := s1.toks) hk, turn_enum a (s1.heap.objs.size + 1) s1.heap.objs.size, ⟨⟨.none, he⟩, hit, Nat.succ_ne_self _⟩, fresh, q⟩
  · obtain ⟨its, rv, pl, hz⟩ := I1.tuple hq
    have tupIs : s1.heap.IsTuple a its.toArray := pl
    refine enum_begin1 (begins_tuple a its.toArray) tupIs fun h' he hit hk => wpAny_pyIter_enum he ?_
    exact ⟨s1.heap.objs.size + 1, _, _, _, H1, rfl, I1.kept (t' := s1.toks) hk, turn_enumT a (s1.heap.objs.size + 1) s1.heap.objs.size, ⟨⟨.none, he⟩, ⟨_, hit, rfl, rfl⟩, Nat.succ_ne_self _⟩, fresh, q⟩
end Tw
set_option Elab.async false
set_option linter.all false
set_option autoImplicit false
set_option maxRecDepth 100000
/-! TwIt: targets, what is walked. -/
namespace Tw
open PySem PySem.Spec PyProof.Rows L2
section
variable {K : PySem.W.Frag} {m : Mp} {H : Hp} {S : Hs}
/-! ### targets -/
theorem SimE.set {σv : Sv} {σ : L2.St} {x : VV} {v : V} (h : SimE K m H σv σ) (r : R K m H x v) (i : Nat) : SimE K m H (σv.set i (some x)) (σ.set i (some v)) := by
  refine ⟨by simp [h.len], fun j y e => ?_⟩
  by_cases hj : i = j
  · subst hj
    by_cases hl : i < σv.length
    · rw [List.getElem?_set_self hl] at e
      cases e
      exact ⟨v, List.getElem?_set_self (by rw [h.len]; exact hl), r⟩
    · rw [List.getElem?_eq_none (by simpa using hl)] at e
      cases e
  · rw [List.getElem?_set_ne hj] at e ⊢
    exact h.get j y e
theorem SimE.wip {σv : Sv} {σ : L2.St} (h : SimE K m H σv σ) : ∀ own : List Nat, SimE K m H (wip σv own) (wipe σ own)
  | [] => h
  | v :: vs => by
    have ih := SimE.wip h vs
    unfold Tw.wip wipe
    refine ⟨by simp [ih.len], fun j y e => ?_⟩
    by_cases hj : v = j
    · subst hj
      by_cases hl : v < (Tw.wip σv vs).length
      · rw [List.getElem?_set_self hl] at e; cases e
      · rw [List.getElem?_eq_none (by simpa using hl)] at e; cases e
    · rw [List.getElem?_set_ne hj] at e ⊢
      exact ih.get j y e
mutual
/-- the slots of a target -/
def tvs : Tg → List Nat
  | .var i => [i]
  | .tup ts => tvss ts
def tvss : List Tg → List Nat
  | [] => []
  | t :: ts => tvs t ++ tvss ts
end
/-- but for these slots the same -/
def Like (is : List Nat) (σ σ' : L2.St) : Prop := σ'.length = σ.length ∧ ∀ j, j ∉ is → σ'[j]? = σ[j]?
theorem Like.trans {a b : List Nat} {σ σ1 σ2 : L2.St} (h : Like a σ σ1) (k : Like b σ1 σ2) : Like (a ++ b) σ σ2 :=
  ⟨k.1.trans h.1, fun j hj => by rw [List.mem_append, not_or] at hj; rw [k.2 j hj.2, h.2 j hj.1]⟩
def rdG (K : PySem.W.Frag) (tg : Tg) : TG := fun v σ H Q => ∃ m x σv σv', R K m H x v ∧ SimE K m H σv σ ∧ asg tg x σv = some σv' ∧ ∀ σ', SimE K m H σv' σ' → Like (tvs tg) σ σ' → Q σ' H
def rdGs (K : PySem.W.Frag) (tgs : List Tg) : TGs := fun vs σ H Q => ∃ m xs σv σv', Rs K m H xs vs ∧ SimE K m H σv σ ∧ asgs tgs xs σv = some σv' ∧ ∀ σ', SimE K m H σv' σ' → Like (tvss tgs) σ σ' → Q σ' H
theorem PG.imp {X : Cx} {e : Expr} {t t' : TG} (h : PG X e t) (i : ∀ v σ H Q, t' v σ H Q → t v σ H Q) : PG X e t' := ⟨fun pins s σ H v u Q I r q => h.run pins s σ H v u Q I r (i v σ H Q q)⟩
theorem PGs.imp {X : Cx} {e : List Expr} {t t' : TGs} (h : PGs X e t) (i : ∀ v σ H Q, t' v σ H Q → t v σ H Q) : PGs X e t' := ⟨fun pins s σ H v u Q I r q => h.run pins s σ H v u Q I r (i v σ H Q q)⟩
theorem asg_len : ∀ {t : Tg} {x : VV} {σ σ' : Sv}, asg t x σ = some σ' → σ'.length = σ.length := by
  have key : (∀ (t : Tg) (x : VV) (σ σ' : Sv), asg t x σ = some σ' → σ'.length = σ.length) ∧ ∀ (ts : List Tg) (xs : List VV) (σ σ' : Sv), asgs ts xs σ = some σ' → σ'.length = σ.length := by
    refine ⟨fun t => ?_, fun ts => ?_⟩
    · exact Tg.rec (motive_1 := fun t => ∀ (x : VV) (σ σ' : Sv), asg t x σ = some σ' → σ'.length = σ.length) (motive_2 := fun ts => ∀ (xs : List VV) (σ σ' : Sv), asgs ts xs σ = some σ' → σ'.length = σ.length)
        (fun i x σ σ' h => by cases h; simp) (fun ts ih x σ σ' h => by
          cases x <;> first | exact ih _ _ _ h | cases h) (fun xs σ σ' h => by cases xs <;> cases h; rfl) (fun t ts ih1 ih2 xs σ σ' h => by
          cases xs with
          | nil => cases h
          | cons x xs =>
            have h : (match asg t x σ with
              | some σ' => asgs ts xs σ'
              | none => none) = some σ' := h
            cases e : asg t x σ with
            | none => rw [e] at h; cases h
            | some σ1 =>
              rw [e] at h
              exact (ih2 _ _ _ h).trans (ih1 _ _ _ e)) t
    · exact Tg.rec_1 (motive_1 := fun t => ∀ (x : VV) (σ σ' : Sv), asg t x σ = some σ' → σ'.length = σ.length) (motive_2 := fun ts => ∀ (xs : List VV) (σ σ' : Sv), asgs ts xs σ = some σ' → σ'.length = σ.length)
        (fun i x σ σ' h => by cases h; simp) (fun ts ih x σ σ' h => by
          cases x <;> first | exact ih _ _ _ h | cases h) (fun xs σ σ' h => by cases xs <;> cases h; rfl) (fun t ts ih1 ih2 xs σ σ' h => by
          cases xs with
          | nil => cases h
          | cons x xs =>
            have h : (match asg t x σ with
              | some σ' => asgs ts xs σ'
              | none => none) = some σ' := h
            cases e : asg t x σ with
            | none => rw [e] at h; cases h
            | some σ1 =>
              rw [e] at h
              exact (ih2 _ _ _ h).trans (ih1 _ _ _ e)) ts
  intro t x σ σ' h
  exact key.1 t x σ σ' h
end
section
variable {X : Cx}
theorem pg_var {i : Nat} {x : Str} {pos : Pos} (hN : X.N.Nodup) (hi : X.N[i]? = some x) (hx : Loc X.env.scope x) (hf : X.fn x = true ∨ X.env.scope.names.lookup x = some .local) : PG X (.Name x pos) (rdG X.K (.var i)) :=
  PG.imp (pg_name hN hi hx hf) fun v σ H Q ⟨m, x, σv, σv', r, s, e, k⟩ => by
    cases e
    exact k _ (s.set r i) ⟨by simp, fun j hj => by rw [List.getElem?_set_ne (fun q => hj (by rw [← q]; exact List.mem_cons_self))]⟩
theorem pgs_nil' : PGs X [] (rdGs X.K []) := PGs.imp pgs_nil fun vs σ H Q ⟨m, xs, σv, σv', r, s, e, k⟩ => by
  cases r with
  | nil =>
    cases e
    exact ⟨rfl, k σ s ⟨rfl, fun _ _ => rfl⟩⟩
  | cons _ _ => cases e
theorem assignEach_cons {e : Expr} {es : List Expr} {env : Env} (h : notStar e = true) : assignEach (e :: es) env = (false, assign e env) :: assignEach es env := by
  cases e <;> first | rfl | cases h
theorem pgs_cons' {e : Expr} {es : List Expr} {t : Tg} {ts : List Tg} (hn : notStar e = true) (h1 : PG X e (rdG X.K t)) (h2 : PGs X es (rdGs X.K ts)) : PGs X (e :: es) (rdGs X.K (t :: ts)) :=
  PGs.imp (pgs_cons h1 h2 (by rw [assignEach_cons hn]; rfl)) fun vs σ H Q ⟨m, xs, σv, σv', r, s, e, k⟩ => by
    cases r with
    | nil => cases e
    | cons r rt =>
      have e : (match asg t _ σv with
        | some σ' => asgs ts _ σ'
        | none => none) = some σv' := e
      cases e1 : asg t _ σv with
      | none => rw [e1] at e; cases e
      | some σ1 =>
        rw [e1] at e
        exact ⟨_, _, rfl, m, _, σv, σ1, r, s, e1, fun σ' s' l' => ⟨m, _, σ1, σv', rt, s', e, fun σ2 s2 l2 => k σ2 s2 (l'.trans l2)⟩⟩
theorem asgs_len : ∀ {ts : List Tg} {xs : List VV} {σ σ' : Sv}, asgs ts xs σ = some σ' → ts.length = xs.length
  | [], [], _, _, _ => rfl
  | [], _ :: _, _, _, h => by cases h
  | _ :: _, [], _, _, h => by cases h
  | t :: ts, x :: xs, σ, σ', h => by
    have h : (match asg t x σ with
      | some σ' => asgs ts xs σ'
      | none => none) = some σ' := h
    cases e : asg t x σ with
    | none => rw [e] at h; cases h
    | some σ1 =>
      rw [e] at h
      rw [List.length_cons, List.length_cons, asgs_len h]
theorem each_plain {env : Env} : ∀ {es : List Expr}, (∀ e ∈ es, notStar e = true) → (assignEach es env).length = es.length ∧ (assignEach es env).findIdx? (·.1) = none
  | [], _ => ⟨rfl, rfl⟩
  | e :: es, h => by
    obtain ⟨h1, h2⟩ := each_plain (env := env) (es := es) fun e he => h e (List.mem_cons_of_mem _ he)
    rw [assignEach_cons (h e List.mem_cons_self)]
    refine ⟨by rw [List.length_cons, h1, List.length_cons], ?_⟩
    rw [List.findIdx?_cons, h2]
    simp
/-- a written tuple of targets takes a tuple or a list -/
theorem pg_seq {es : List Expr} {k : Nat} {pos : Pos} {ts : List Tg} (hc : X.calm = true) (hs : ∀ e ∈ es, notStar e = true) (h : PGs X es (rdGs X.K ts)) (hl : es.length = ts.length) : PG X (.Tuple es k pos) (rdG X.K (.tup ts)) := by
  obtain ⟨h1, h2⟩ := each_plain (env := X.env) hs
  have g1 := pg_tup (k := k) (pos := pos) hc h h1 h2
  have g2 := pg_unl (k := k) (pos := pos) hc h h1 h2
  refine ⟨fun pins s σ H v u Q I r ⟨m, x, σv, σv', rx, se, e, kk⟩ => ?_⟩
  cases x <;> try (exact absurd (show none = some σv' from e) (by simp))
  · rename_i xs
    have e : asgs ts xs σv = some σv' := e
    have hlen := asgs_len e
    cases rx with
    | tup f t => exact g1.run pins s σ H _ u Q I r ⟨_, _, rfl, f.sq, by rw [← t.length, ← hlen, hl], m, xs, σv, σv', t, se, e, kk⟩
  · rename_i xs
    have e : asgs ts xs σv = some σv' := e
    have hlen := asgs_len e
    cases rx with
    | lst f t => exact g2.run pins s σ H _ u Q I r ⟨_, _, rfl, f.sq, by rw [← t.length, ← hlen, hl], m, xs, σv, σv', t, se, e, kk⟩
end

/-! ### what is walked -/
section
variable {K : PySem.W.Frag} {m m' : Mp} {H H' : Hp} {S : Hs} {d : Ad} {o : HO}
/-- a list at a with these items: frozen, or the k-th object -/
inductive Lw (K : PySem.W.Frag) (m : Mp) (H : Hp) : Ad → List VV → List (Nat × List VV) → Prop
  | fz {a : Ad} {xs : List VV} {ys : List V} : FzL m H a ys → Rs K m H xs ys → Lw K m H a xs []
  | ref {a : Ad} {k : Nat} {xs : List VV} : m.ix[k]? = some a → Lw K m H a xs [(k, xs)]
theorem Lw.at {a : Ad} {xs : List VV} {g : List (Nat × List VV)} (l : Lw K m H a xs g) (h : SimH K m H S) (hg : gokB S g = true) : ∃ ys, H a = some (.lst ys) ∧ Rs K m H xs ys := by
  cases l with
  | fz f t => exact ⟨_, f.1, t⟩
  | ref hk => exact h.obj _ _ a (gokB_mem hg List.mem_cons_self) hk
theorem Lw.ext {a : Ad} {xs : List VV} {g : List (Nat × List VV)} (e : Ext m H m' H') (l : Lw K m H a xs g) : Lw K m' H' a xs g := by
  cases l with
  | fz f t => exact .fz (e.rdL f) (t.ext e)
  | ref hk =>
    obtain ⟨t, et, _⟩ := e.grow
    exact .ref (by rw [et, List.getElem?_append_left (List.getElem?_eq_some_iff.mp hk).1]; exact hk)
theorem Lw.aside {a : Ad} {xs : List VV} {g : List (Nat × List VV)} (hd : H d = none) (l : Lw K m H a xs g) : Lw K (m.apart d) (upd H d o) a xs g := by
  cases l with
  | fz f t => exact .fz ⟨by rw [upd_ne (ne_of_none f.1 hd)]; exact f.1, aside_out (K := K) (o := o) hd (by rw [f.1]; simp) f.2⟩ (t.aside hd)
  | ref hk => exact .ref hk
theorem Lw.put {a : Ad} {xs : List VV} {g : List (Nat × List VV)} (l : Lw K (m.apart d) H a xs g) : Lw K (m.apart d) (upd H d o) a xs g := by
  cases l with
  | fz f t => exact .fz ⟨by rw [upd_ne (out_ne f.2)]; exact f.1, f.2⟩ t.put
  | ref hk => exact .ref hk
inductive Wk (K : PySem.W.Frag) (m : Mp) (H : Hp) : Src → L2.It → Prop
  | lst {a : Ad} {xs : List VV} {g : List (Nat × List VV)} : Lw K m H a xs g → Wk K m H (xs, g) (Itl K a)
  | tup {a : Ad} {xs : List VV} : R K m H (.tup xs) (.ref a) → Wk K m H (xs, []) (Itt K a)
  | rng (lo : Int) (n : Nat) : Wk K m H ((List.range n).map fun (i : Nat) => VV.int (lo + i), []) (Itr lo n)
  | enm {a : Ad} {xs : List VV} {g : List (Nat × List VV)} : Lw K m H a xs g → Wk K m H (enumV xs, g) (Ite K a)
  | enmT {a : Ad} {xs : List VV} : R K m H (.tup xs) (.ref a) → Wk K m H (enumV xs, []) (IteT K a)
  | zip {a b : Ad} {xs ys : List VV} {g q : List (Nat × List VV)} : Lw K m H a xs g → Lw K m H b ys q → Wk K m H (zipV xs ys, g ++ q) (Itz K a b)
  | zipT {a b : Ad} {xs ys : List VV} : R K m H (.tup xs) (.ref a) → R K m H (.tup ys) (.ref b) → Wk K m H (zipV xs ys, []) (RZ.ItzT K a b)
theorem Wk.ext {src : Src} {J : L2.It} (e : Ext m H m' H') (w : Wk K m H src J) : Wk K m' H' src J := by
  cases w with
  | lst l => exact .lst (l.ext e)
  | tup r => exact .tup (r.ext e)
  | rng lo n => exact .rng lo n
  | enm l => exact .enm (l.ext e)
  | enmT r => exact .enmT (r.ext e)
  | zip l q => exact .zip (l.ext e) (q.ext e)
  | zipT r q => exact .zipT (r.ext e) (q.ext e)
theorem Wk.aside {src : Src} {J : L2.It} (hd : H d = none) (w : Wk K m H src J) : Wk K (m.apart d) (upd H d o) src J := by
  cases w with
  | lst l => exact .lst (l.aside hd)
  | tup r => exact .tup (r.aside hd)
  | rng lo n => exact .rng lo n
  | enm l => exact .enm (l.aside hd)
  | enmT r => exact .enmT (r.aside hd)
  | zip l q => exact .zip (l.aside hd) (q.aside hd)
  | zipT r q => exact .zipT (r.aside hd) (q.aside hd)
theorem Wk.put {src : Src} {J : L2.It} (w : Wk K (m.apart d) H src J) : Wk K (m.apart d) (upd H d o) src J := by
  cases w with
  | lst l => exact .lst l.put
  | tup r => exact .tup r.put
  | rng lo n => exact .rng lo n
  | enm l => exact .enm l.put
  | enmT r => exact .enmT r.put
  | zip l q => exact .zip l.put q.put
  | zipT r q => exact .zipT r.put q.put
theorem gok_app {g q : List (Nat × List VV)} (h : gokB S (g ++ q) = true) : gokB S g = true ∧ gokB S q = true := by
  unfold gokB at h ⊢
  rw [List.all_append, Bool.and_eq_true] at h
  exact h
theorem tup_rd {a : Ad} {xs : List VV} (r : R K m H (.tup xs) (.ref a)) : ∃ ys, SqT K H a ys ∧ Rs K m H xs ys := by
  cases r with
  | tup f t => exact ⟨_, f.sq, t⟩
theorem new2 {T : Ad} {x y : VV} {u v : V} (h : SimH K m H S) (hT : H T = none) (rx : R K m H x u) (ry : R K m H y v) : Ext m H m (upd H T (.tup [u, v])) ∧ SimH K m (upd H T (.tup [u, v])) S ∧ R K m (upd H T (.tup [u, v])) (.tup [x, y]) (.ref T) :=
  ⟨Ext.new hT, h.new hT, R.newT h hT (.cons rx (.cons ry .nil))⟩
/-- an item more -/
theorem Wk.go {src : Src} {J : L2.It} (w : Wk K m H src J) (h : SimH K m H S) (hg : gokB S src.2 = true) {i : Nat} {x : VV} (hx : src.1[i]? = some x) :
    J.go i H ∧ ∀ v H3, J.yld i H v H3 → Ext m H m H3 ∧ SimH K m H3 S ∧ R K m H3 x v := by
  cases w with
  | lst l =>
    obtain ⟨ys, ha, t⟩ := l.at h hg
    obtain ⟨u, hu, ru⟩ := t.get hx
    refine ⟨⟨ys, u, SqL.of ha, hu⟩, fun v H3 ⟨e, y⟩ => ?_⟩
    subst e
    have := y ys (SqL.of ha)
    rw [hu] at this
    cases this
    exact ⟨Ext.refl, h, ru⟩
  | tup r =>
    obtain ⟨ys, ha, t⟩ := tup_rd r
    obtain ⟨u, hu, ru⟩ := t.get hx
    refine ⟨⟨ys, u, ha, hu⟩, fun v H3 ⟨e, y⟩ => ?_⟩
    subst e
    have := y ys ha
    rw [hu] at this
    cases this
    exact ⟨Ext.refl, h, ru⟩
  | rng lo n =>
    simp only [List.getElem?_map] at hx
    obtain ⟨j, hj, rfl⟩ := Option.map_eq_some_iff.mp hx
    obtain ⟨hlt, e⟩ := List.getElem?_eq_some_iff.mp hj
    rw [List.getElem_range] at e
    subst e
    rw [List.length_range] at hlt
    refine ⟨hlt, fun v H3 ⟨e, y⟩ => ?_⟩
    subst e y
    exact ⟨Ext.refl, h, .int _⟩
  | enm l =>
    obtain ⟨ys, ha, t⟩ := l.at h hg
    simp only [enumV, List.getElem?_mapIdx] at hx
    obtain ⟨z, hz, rfl⟩ := Option.map_eq_some_iff.mp hx
    obtain ⟨u, hu, ru⟩ := t.get hz
    refine ⟨⟨ys, u, SqL.of ha, hu⟩, fun v H3 ⟨T, y, e1, e2, e3, e4⟩ => ?_⟩
    subst e1 e3
    have := e4 ys (SqL.of ha)
    rw [hu] at this
    cases this
    exact new2 h e2 (.int _) ru
  | enmT r =>
    obtain ⟨ys, ha, t⟩ := tup_rd r
    simp only [enumV, List.getElem?_mapIdx] at hx
    obtain ⟨z, hz, rfl⟩ := Option.map_eq_some_iff.mp hx
    obtain ⟨u, hu, ru⟩ := t.get hz
    refine ⟨⟨ys, u, ha, hu⟩, fun v H3 ⟨T, y, e1, e2, e3, e4⟩ => ?_⟩
    subst e1 e3
    have := e4 ys ha
    rw [hu] at this
    cases this
    exact new2 h e2 (.int _) ru
  | zip l q =>
    obtain ⟨g1, g2⟩ := gok_app hg
    obtain ⟨ys, ha, t⟩ := l.at h g1
    obtain ⟨zs, hb, t2⟩ := q.at h g2
    simp only [zipV, List.getElem?_map] at hx
    obtain ⟨p, hp, rfl⟩ := Option.map_eq_some_iff.mp hx
    obtain ⟨h1, h2⟩ := List.getElem?_zip_eq_some.mp hp
    obtain ⟨u, hu, ru⟩ := t.get h1
    obtain ⟨w, hw, rw'⟩ := t2.get h2
    refine ⟨⟨ys, zs, u, w, SqL.of ha, SqL.of hb, hu, hw⟩, fun v H3 ⟨T, x, y, e1, e2, e3, e4, e5⟩ => ?_⟩
    subst e1 e3
    have q1 := e4 ys (SqL.of ha)
    have q2 := e5 zs (SqL.of hb)
    rw [hu] at q1
    rw [hw] at q2
    cases q1
    cases q2
    exact new2 h e2 ru rw'
  | zipT r q =>
    obtain ⟨ys, ha, t⟩ := tup_rd r
    obtain ⟨zs, hb, t2⟩ := tup_rd q
    simp only [zipV, List.getElem?_map] at hx
    obtain ⟨p, hp, rfl⟩ := Option.map_eq_some_iff.mp hx
    obtain ⟨h1, h2⟩ := List.getElem?_zip_eq_some.mp hp
    obtain ⟨u, hu, ru⟩ := t.get h1
    obtain ⟨w, hw, rw'⟩ := t2.get h2
    refine ⟨⟨ys, zs, u, w, ha, hb, hu, hw⟩, fun v H3 ⟨T, x, y, e1, e2, e3, e4, e5⟩ => ?_⟩
    subst e1 e3
    have q1 := e4 ys ha
    have q2 := e5 zs hb
    rw [hu] at q1
    rw [hw] at q2
    cases q1
    cases q2
    exact new2 h e2 ru rw'
theorem Wk.stop {src : Src} {J : L2.It} (w : Wk K m H src J) (h : SimH K m H S) (hg : gokB S src.2 = true) {i : Nat} (hi : src.1.length ≤ i) : J.stop i H := by
  cases w with
  | lst l =>
    obtain ⟨ys, ha, t⟩ := l.at h hg
    exact ⟨ys, SqL.of ha, by rw [← t.length]; exact hi⟩
  | tup r =>
    obtain ⟨ys, ha, t⟩ := tup_rd r
    exact ⟨ys, ha, by rw [← t.length]; exact hi⟩
  | rng lo n =>
    show n ≤ i
    simpa using hi
  | enm l =>
    obtain ⟨ys, ha, t⟩ := l.at h hg
    exact ⟨ys, SqL.of ha, by rw [← t.length]; simpa [enumV] using hi⟩
  | enmT r =>
    obtain ⟨ys, ha, t⟩ := tup_rd r
    exact ⟨ys, ha, by rw [← t.length]; simpa [enumV] using hi⟩
  | zip l q =>
    obtain ⟨g1, g2⟩ := gok_app hg
    obtain ⟨ys, ha, t⟩ := l.at h g1
    obtain ⟨zs, hb, t2⟩ := q.at h g2
    refine ⟨ys, zs, SqL.of ha, SqL.of hb, ?_⟩
    have l1 := t.length
    have l2 := t2.length
    simp only [zipV, List.length_map, List.length_zip] at hi
    omega
  | zipT r q =>
    obtain ⟨ys, ha, t⟩ := tup_rd r
    obtain ⟨zs, hb, t2⟩ := tup_rd q
    refine ⟨ys, zs, ha, hb, ?_⟩
    have l1 := t.length
    have l2 := t2.length
    simp only [zipV, List.length_map, List.length_zip] at hi
    omega
end
end Tw
set_option Elab.async false
set_option linter.all false
set_option autoImplicit false
set_option maxRecDepth 100000
/-! TwLc: what is walked, as the interpreter has it; list comprehensions. -/
namespace Tw
open PySem PySem.Spec PyProof.Rows L2
theorem noX_eq {α : Type} {o : Out α} {x : α} {s : Hs} (h : noX o = .ok x s) : o = .ok x s := by
  cases o <;> first | exact h | cases h
theorem noX_noX {α : Type} (o : Out α) (v : VV) (s : Hs) : noX o ≠ .exc v s := by
  intro h
  cases o <;> cases h
theorem bind_noX {α β : Type} {o : Out α} {g : α → Hs → Out β} (ho : ∀ v s, o ≠ .exc v s) (hg : ∀ x s v s', g x s ≠ .exc v s') (v : VV) (s : Hs) : o.bind g ≠ .exc v s := by
  intro h
  cases o with
  | ok x s1 => exact hg x s1 v s h
  | exc v1 s1 => exact ho v1 s1 rfl
  | bad => cases h
section
variable {X : Cx} {w : Wish} {cl : Cl} {tg : Expr}
def rdI (K : PySem.W.Frag) (w : Wish) (f : Sv → Hs → Out Src) : TI := fun σ H P => ∃ m σv S, Sit K m σv S σ H ∧ Res K w m H σ (f σv S) fun src S' => ∀ m' H' J, Ext m H m' H' → SimH K m' H' S' → Wk K m' H' src J → P J H'
def SI (X : Cx) (w : Wish) (cl : Cl) (tg e : Expr) (it : It) : Prop := PI X tg e (rdI X.K w (evIt cl it))
theorem PI.imp {X : Cx} {e : Expr} {t t' : TI} (h : PI X tg e t) (i : ∀ σ H P, t' σ H P → t σ H P) : PI X tg e t' := ⟨fun pins s σ H P I q => h.run pins s σ H P I (i σ H P q)⟩
/-- a list or a tuple, walked -/
def iSeq (K : PySem.W.Frag) (tl : TE) : TI := fun σ H P => tl σ H fun x H1 => ∃ a, x = .ref a ∧ (((∃ xs, SqL K H1 a xs) ∧ P (Itl K a) H1) ∨ ((∃ xs, SqT K H1 a xs) ∧ P (Itt K a) H1))
theorem iter_in {pins : List (PySem.Addr × Obj)} {σ : L2.St} {H1 : Hp} {s1 : Shared} {P : L2.It → Hp → Prop} {J : L2.It} {tn : Nat → Heap → Prop} {o : Obj} (I1 : Inv X pins σ H1 s1) (T : Turn X.prog X.w X.K tg J [s1.heap.objs.size] s1.heap.objs.size tn) (t0 : tn 0 (s1.heap.push o)) (q : P J H1) :
    PIE X pins σ tg P (.ref s1.heap.objs.size) { s1 with heap := s1.heap.push o } := by
  refine ⟨s1.heap.objs.size, [s1.heap.objs.size], tn, J, H1, rfl, I1.kept (t' := s1.toks) fun b u e => Heap.get?_push_of_some _ e, T, t0, fun b hb => ?_, q⟩
  rw [List.mem_singleton.mp hb]
  exact I1.fpOk (Nat.le_refl _) (I1.hok.fresh (Nat.le_refl _))
theorem pi_seq {l : Expr} {tl : TE} (hl : PE X l tl) : PI X tg l (iSeq X.K tl) := by
  refine ⟨fun pins s σ H P I h => ?_⟩
  refine thn (hl.run pins s σ H _ I h) ?_
  rintro v s1 ⟨x, H1, I1, r1, a, rfl, q⟩
  cases r1
  rcases q with ⟨⟨xs, hq⟩, q⟩ | ⟨⟨xs, hq⟩, q⟩
  · obtain ⟨its, rv, p, hz⟩ := I1.list hq
    exact wpAny_pyIter_list p.isList (iter_in I1 (turn_list a _) ⟨_, Heap.get?_push_size _ rfl, rfl, rfl⟩ q)
  · obtain ⟨its, rv, p, hz⟩ := I1.tuple hq
    exact wpAny_pyIter_tuple (items := its.toArray) p (iter_in I1 (turn_tuple a _) ⟨_, Heap.get?_push_size _ rfl, rfl, rfl⟩ q)
theorem src_lw {K : PySem.W.Frag} {m : Mp} {H : Hp} {S : Hs} {x : VV} {v : V} {src : Src} (h : SimH K m H S) (r : R K m H x v) (e : srcOf S x = some src) : ∃ a, v = .ref a ∧
    ((isTup x = false ∧ (∃ ys, SqL K H a ys) ∧ Lw K m H a src.1 src.2) ∨ (isTup x = true ∧ (∃ ys, SqT K H a ys) ∧ src.2 = [] ∧ R K m H (.tup src.1) (.ref a))) := by
  unfold srcOf at e
  obtain ⟨xs, e1, rfl⟩ := Option.map_eq_some_iff.mp e
  cases r <;> simp [seqOf] at e1
  · subst e1
    rename_i a ys f t
    exact ⟨_, rfl, .inr ⟨rfl, ⟨_, FzT.sq (by assumption)⟩, rfl, .tup (by assumption) (by assumption)⟩⟩
  · subst e1
    exact ⟨_, rfl, .inl ⟨rfl, ⟨_, FzL.sq (by assumption)⟩, .fz (by assumption) (by assumption)⟩⟩
  · rename_i k a hk
    obtain ⟨ys, h1, h2⟩ := h.list hk e1
    exact ⟨a, rfl, .inl ⟨rfl, ⟨ys, SqL.of h1⟩, .ref hk⟩⟩
theorem src_wk {K : PySem.W.Frag} {m : Mp} {H : Hp} {S : Hs} {x : VV} {v : V} {src : Src} (h : SimH K m H S) (r : R K m H x v) (e : srcOf S x = some src) : ∃ a, v = .ref a ∧ (((∃ xs, SqL K H a xs) ∧ Wk K m H src (Itl K a)) ∨ ((∃ xs, SqT K H a xs) ∧ Wk K m H src (Itt K a))) := by
  obtain ⟨a, e1, q⟩ := src_lw h r e
  refine ⟨a, e1, ?_⟩
  rcases q with ⟨_, q1, l⟩ | ⟨_, q1, z, l⟩
  · exact .inl ⟨q1, .lst l⟩
  · obtain ⟨xs, g⟩ := src
    cases z
    exact .inr ⟨q1, .tup l⟩
theorem si_pl {e : Expr} {ir : Ex} (h : SE X w cl e ir) : SI X w cl tg e (.pl ir) := by
  refine PI.imp (pi_seq h) fun σ H P ⟨m, σv, S, s, q⟩ => ?_
  have q : Res X.K w m H σ ((ev cl ir σv S).bind fun x s => lift (srcOf s x) s) _ := q
  refine rd_then s (q.bind.imp fun x S1 e1 m1 H1 v x1 s1 r1 => ?_)
  obtain ⟨src, S', e2, k⟩ := e1.ok (lift_noX _ _)
  cases e3 : srcOf S1 x with
  | none => rw [e3] at e2; cases e2
  | some sr =>
    rw [e3] at e2
    cases e2
    obtain ⟨a, ea, q1⟩ := src_wk s1.h r1 e3
    refine ⟨a, ea, ?_⟩
    rcases q1 with ⟨h1, h2⟩ | ⟨h1, h2⟩
    · exact .inl ⟨h1, k m1 H1 _ x1 s1.h h2⟩
    · exact .inr ⟨h1, k m1 H1 _ x1 s1.h h2⟩
theorem rng_fn (n : Nat) : ((List.range n).map fun (i : Nat) => VV.int i) = (List.range n).map fun (i : Nat) => VV.int ((0 : Int) + i) := by
  congr 1
  funext i
  rw [Int.zero_add]
theorem gRange_noX (vs : List VV) (s : Hs) (v : VV) (s' : Hs) : gRange vs s ≠ .exc v s' := by
  intro h
  unfold gRange at h
  split at h
  · split at h <;> cases h
  · split at h <;> cases h
  · cases h
theorem Res.imp_eq {α : Type} {K : PySem.W.Frag} {m : Mp} {H : Hp} {σ : L2.St} {o : Out α} {k k' : α → Hs → Prop} (h : Res K w m H σ o k) (i : ∀ x S1, o = .ok x S1 → k x S1 → k' x S1) : Res K w m H σ o k' := by
  cases o with
  | ok x S1 => exact i x S1 rfl h
  | exc v S1 => exact h
  | bad => exact h
theorem evs_len : ∀ {es : List Ex} {σ : Sv} {s s' : Hs} {xs : List VV}, evs cl es σ s = .ok xs s' → xs.length = es.length
  | [], _, _, _, _, e => by cases e; rfl
  | i :: es, σ, s, s', xs, e => by
    obtain ⟨v, s1, e1, e⟩ := Out.bind_eq_ok (show (ev cl i σ s).bind _ = _ from e)
    obtain ⟨vs, s2, e2, e⟩ := Out.bind_eq_ok e
    cases e
    rw [List.length_cons, evs_len e2, List.length_cons]
theorem si_range1 {a : Expr} {ia : Ex} {p pos : Pos} (hg : Gl X "range") (hm : X.mg "range" = none) (hn : notStar a = true) (ha : SA X w cl [a] [ia]) : SI X w cl tg (.Call (.Name "range" p) [a] [] pos) (.range [ia]) := by
  refine PI.imp (pi_range1 hg hm ha (by rw [star_cons hn]; rfl)) fun σ H P ⟨m, σv, S, s, q⟩ => ?_
  have q : Res X.K w m H σ ((evs cl [ia] σv S).bind fun vs s => gRange vs s) _ := q
  refine rd_thenA s (Res.imp_eq q.bind fun x S1 ee e1 m1 H1 v x1 s1 r1 => ?_)
  obtain ⟨src, S', e2, k⟩ := e1.ok (gRange_noX _ _)
  have l1 := evs_len ee
  unfold gRange at e2
  split at e2
  · rename_i n
    split at e2
    · rename_i hb
      cases e2
      cases r1 with
      | cons r t =>
        cases t
        cases r
        refine ⟨n, rfl, hb.1, hb.2, k m1 H1 _ x1 s1.h ?_⟩
        rw [rng_fn]
        exact .rng 0 n.toNat
    · cases e2
  · cases l1
  · cases e2
theorem si_range2 {a b : Expr} {ia ib : Ex} {p pos : Pos} (hg : Gl X "range") (hm : X.mg "range" = none) (hn : notStar a = true) (hn2 : notStar b = true) (ha : SA X w cl [a, b] [ia, ib]) : SI X w cl tg (.Call (.Name "range" p) [a, b] [] pos) (.range [ia, ib]) := by
  refine PI.imp (pi_range2 hg hm ha (by rw [star_cons hn, star_cons hn2]; rfl) (by rw [star_cons hn2]; rfl)) fun σ H P ⟨m, σv, S, s, q⟩ => ?_
  have q : Res X.K w m H σ ((evs cl [ia, ib] σv S).bind fun vs s => gRange vs s) _ := q
  refine rd_thenA s (Res.imp_eq q.bind fun x S1 ee e1 m1 H1 v x1 s1 r1 => ?_)
  obtain ⟨src, S', e2, k⟩ := e1.ok (gRange_noX _ _)
  have l1 := evs_len ee
  unfold gRange at e2
  split at e2
  · cases l1
  · rename_i n n2
    split at e2
    · rename_i hb
      cases e2
      cases r1 with
      | cons r t =>
        cases t with
        | cons r' t =>
          cases t
          cases r
          cases r'
          exact ⟨n, n2, rfl, hb, k m1 H1 _ x1 s1.h (.rng n (n2 - n).toNat)⟩
    · cases e2
  · cases e2
theorem si_enum {e : Expr} {ir : Ex} {p pos tpos : Pos} {elts : List Expr} {kk : Nat} (hg : Gl X "enumerate") (hm : X.mg "enumerate" = none) (hn : notStar e = true) (h : SE X w cl e ir) : SI X w cl (.Tuple elts kk tpos) (.Call (.Name "enumerate" p) [e] [] pos) (.enum ir) := by
  refine PI.imp (pi_enumA hg hm (sa_cons hn h sa_nil) (by rw [star_cons hn]; rfl)) fun σ H P ⟨m, σv, S, s, q⟩ => ?_
  have q : Res X.K w m H σ ((ev cl ir σv S).bind fun x s => gEnum x s) _ := q
  refine rd_thenA s ?_
  show Res X.K w m H σ ((ev cl ir σv S).bind fun x s => (Out.ok [x] s)) _
  refine Res.of_bind (q.bind.imp fun x S1 e1 m1 H1 v x1 s1 r1 => ?_)
  cases r1 with
  | cons r t =>
    cases t
    obtain ⟨src, S', e2, k⟩ := e1.ok (lift_noX _ _)
    unfold gEnum at e2
    cases e3 : srcOf S1 x with
    | none => rw [e3] at e2; cases e2
    | some sr =>
      rw [e3] at e2
      cases e2
      obtain ⟨a, rfl, q1⟩ := src_lw s1.h r e3
      rcases q1 with ⟨_, ⟨ys, h1⟩, l⟩ | ⟨_, ⟨ys, h1⟩, z, l⟩
      · exact ⟨a, ys, rfl, .inl ⟨h1, k m1 H1 _ x1 s1.h (.enm l)⟩⟩
      · refine ⟨a, ys, rfl, .inr ⟨h1, k m1 H1 _ x1 s1.h ?_⟩⟩
        obtain ⟨xs, g⟩ := sr
        cases z
        exact .enmT l
theorem si_zip {e e2 : Expr} {ir ir2 : Ex} {p pos tpos : Pos} {elts : List Expr} {kk : Nat} (hg : Gl X "zip") (hm : X.mg "zip" = none) (hn : notStar e = true) (hn2 : notStar e2 = true) (h : SE X w cl e ir) (h2 : SE X w cl e2 ir2) :
    SI X w cl (.Tuple elts kk tpos) (.Call (.Name "zip" p) [e, e2] [] pos) (.zip ir ir2) := by
  refine PI.imp (RZ.pi_zipA hg hm (sa_cons hn h (sa_cons hn2 h2 sa_nil)) (by rw [star_cons hn]) (by rw [star_cons hn2]; rfl)) fun σ H P ⟨m, σv, S, s, q⟩ => ?_
  have q : Res X.K w m H σ ((ev cl ir σv S).bind fun x s => (ev cl ir2 σv s).bind fun y s => gZip x y s) _ := q
  refine rd_thenA s ?_
  show Res X.K w m H σ ((ev cl ir σv S).bind fun x s => ((ev cl ir2 σv s).bind fun y s => (Out.ok [] s).bind fun vs s => .ok (y :: vs) s).bind fun vs s => .ok (x :: vs) s) _
  refine Res.of_bind (q.bind.imp fun x S1 e1 => ?_)
  rw [Out.bind_assoc]
  refine Res.of_bind (e1.bind.imp fun y S2 e1 m1 H1 v x1 s1 r1 => ?_)
  cases r1 with
  | cons r t =>
    cases t with
    | cons r' t =>
      cases t
      obtain ⟨src, S', e2, k⟩ := e1.ok (fun v s' h => by
        unfold gZip at h
        split at h
        · split at h <;> cases h
        · cases h)
      unfold gZip at e2
      split at e2
      · rename_i ht
        split at e2
        · rename_i sr sq ea eb
          cases e2
          obtain ⟨a, rfl, q1⟩ := src_lw s1.h r ea
          obtain ⟨b, rfl, q2⟩ := src_lw s1.h r' eb
          rcases q1 with ⟨z, ⟨ys, h1⟩, l⟩ | ⟨z, ⟨ys, h1⟩, g1, l⟩ <;> rcases q2 with ⟨z2, ⟨zs, h2⟩, l2⟩ | ⟨z2, ⟨zs, h2⟩, g2, l2⟩
          · exact ⟨a, b, ys, zs, rfl, .inl ⟨h1, h2, k m1 H1 _ x1 s1.h (.zip l l2)⟩⟩
          · rw [z, z2] at ht; cases ht
          · rw [z, z2] at ht; cases ht
          · refine ⟨a, b, ys, zs, rfl, .inr ⟨h1, h2, k m1 H1 _ x1 s1.h ?_⟩⟩
            rw [g1, g2]
            exact .zipT l l2
        · cases e2
      · cases e2
end
end Tw
set_option Elab.async false
set_option linter.all false
set_option autoImplicit false
set_option maxRecDepth 100000
/-! TwLc2: list comprehensions. -/
namespace Tw
open PySem PySem.Spec PyProof.Rows L2
section
variable {K : PySem.W.Frag} {m m' : Mp} {H H' : Hp} {S : Hs} {d : Ad} {o : HO}
theorem SimE.aside {σv : Sv} {σ : L2.St} (hd : H d = none) (h : SimE K m H σv σ) : SimE K (m.apart d) (upd H d o) σv σ :=
  ⟨h.len, fun i x q => let ⟨v, h1, h2⟩ := h.get i x q; ⟨v, h1, h2.aside hd⟩⟩
theorem SimE.put {σv : Sv} {σ : L2.St} (h : SimE K (m.apart d) H σv σ) : SimE K (m.apart d) (upd H d o) σv σ :=
  ⟨h.len, fun i x q => let ⟨v, h1, h2⟩ := h.get i x q; ⟨v, h1, h2.put⟩⟩
mutual
/-- what is kept apart becomes an object of ours -/
theorem R.adopt : ∀ {x : VV} {v : V}, R K (m.apart d) H x v → R K (m.push d) H x v
  | _, _, .non => .non
  | _, _, .bl b => .bl b
  | _, _, .int i => .int i
  | _, _, .str z => .str z
  | _, _, .tup f r => .tup (f.imp (fun h => ⟨h.1, adopt_out h.2⟩) id) (Rs.adopt r)
  | _, _, .lst f r => .lst ⟨f.1, adopt_out f.2⟩ (Rs.adopt r)
  | _, _, .scr f r => .scr (f.imp (fun h => ⟨h.1, adopt_out h.2⟩) id) (Rs.adopt r)
  | _, _, .ref (k := k) (a := a) h => .ref (by
      have h : m.ix[k]? = some a := h
      show (m.ix ++ [d])[k]? = some a
      rw [List.getElem?_append_left (List.getElem?_eq_some_iff.mp h).1]
      exact h)
  | _, _, .dct h hm c r => .dct h (adopt_out hm) c (Rp.adopt r)
  | _, _, .exc g h hm h2 hm2 r => .exc g h (adopt_out hm) h2 (adopt_out hm2) (R.adopt r)
theorem Rs.adopt : ∀ {xs : List VV} {vs : List V}, Rs K (m.apart d) H xs vs → Rs K (m.push d) H xs vs
  | _, _, .nil => .nil
  | _, _, .cons r t => .cons (R.adopt r) (Rs.adopt t)
theorem Rp.adopt : ∀ {xs : List (VV × VV)} {vs : List (DK × V)}, Rp K (m.apart d) H xs vs → Rp K (m.push d) H xs vs
  | _, _, .nil => .nil
  | _, _, .int r t => .int (R.adopt r) (Rp.adopt t)
  | _, _, .tup k f r t => .tup k (f.imp (fun h => ⟨h.1, adopt_out h.2⟩) id) (R.adopt r) (Rp.adopt t)
theorem adopt_out {a : Ad} (h : (m.apart d).out a) : (m.push d).out a := ⟨fun q => by
  rcases List.mem_append.mp (show a ∈ m.ix ++ [d] from q) with q | q
  · exact h.1 q
  · exact out_ne h (List.mem_singleton.mp q), fun q => h.2 (List.mem_cons_of_mem _ q)⟩
end
theorem SimH.adoptO {ob : Ob} (h : SimH K (m.apart d) H S) (hv : d ∉ m.av) (r : OR K (m.push d) H ob d) : SimH K (m.push d) H (S ++ [ob]) := by
  have hm : d ∉ m.ix := (h.apart d List.mem_cons_self).1
  have hl : m.ix.length = S.length := h.len
  refine ⟨by simp [Mp.push, hl], ?_, fun k ob b h1 h2 => ?_, fun b hb => ⟨fun q => ?_, (h.apart b (List.mem_cons_of_mem _ hb)).2⟩⟩
  · show (m.ix ++ [d]).Nodup
    rw [List.nodup_append]
    exact ⟨h.nd, by simp, fun x hx y hy z => hm (by rw [List.mem_singleton.mp hy] at z; exact z ▸ hx)⟩
  · have h2 : (m.ix ++ [d])[k]? = some b := h2
    by_cases hk : k < m.ix.length
    · rw [List.getElem?_append_left hk] at h2
      rw [List.getElem?_append_left (by rw [← hl]; exact hk)] at h1
      have q := h.obj k ob b h1 h2
      cases ob with
      | lst zs =>
        obtain ⟨us, h3, h4⟩ := q
        exact ⟨us, h3, h4.adopt⟩
      | dct _ _ =>
        obtain ⟨us, o, h3, h5, h4⟩ := q
        exact ⟨us, o, h3, h5, h4.adopt⟩
      | obj _ _ => exact q.elim
    · rw [List.getElem?_append_right (Nat.le_of_not_lt hk)] at h2
      rw [List.getElem?_append_right (by rw [← hl]; exact Nat.le_of_not_lt hk)] at h1
      rw [hl] at h2
      cases e : k - S.length with
      | zero =>
        rw [e] at h1 h2
        simp at h1 h2
        subst h1 h2
        exact r
      | succ n => rw [e] at h1; simp at h1
  · rcases List.mem_append.mp (show b ∈ m.ix ++ [d] from q) with q | q
    · exact (h.apart b (List.mem_cons_of_mem _ hb)).1 q
    · rw [List.mem_singleton.mp q] at hb
      exact hv hb
theorem SimH.adopt {xs : List VV} {ys : List V} (h : SimH K (m.apart d) H S) (hd : H d = some (.lst ys)) (hv : d ∉ m.av) (r : Rs K (m.apart d) H xs ys) : SimH K (m.push d) H (S ++ [.lst xs]) := h.adoptO hv ⟨ys, hd, r.adopt⟩
theorem Ext.adopt (e : Ext m H m' H') (hd : H d = none) : Ext m H (m'.push d) H' := by
  obtain ⟨t, et, hn⟩ := e.grow
  refine ⟨e.keep, e.live, e.av, t ++ [d], by show m'.ix ++ [d] = _; rw [et, List.append_assoc], fun a ha => ?_⟩
  rcases List.mem_append.mp ha with q | q
  · exact hn a q
  · rw [List.mem_singleton.mp q]; exact hd
theorem Ext.upd_new (e : Ext m H m' H') (hd : H d = none) : Ext m H m' (upd H' d o) := by
  refine ⟨fun a u h hm => ?_, fun a h => ?_, e.av, e.grow⟩
  · rw [upd_ne (ne_of_none h hd)]; exact e.keep a u h hm
  · by_cases q : a = d
    · subst q; exact absurd hd h
    · rw [upd_ne q]; exact e.live a h
/-- from a map with something apart, back to one without -/
theorem Ext.unapart {M2 : Mp} (e : Ext (m.apart d) H M2 H') : ∃ M', M2 = M'.apart d ∧ M'.av = m.av ∧ Ext m H M' H' := by
  obtain ⟨ix, av⟩ := M2
  have h : av = d :: m.av := e.av
  subst h
  exact ⟨⟨ix, m.av⟩, rfl, rfl, e.keep, e.live, rfl, e.grow⟩
theorem wipe_like {σ σ2 : L2.St} {is vs : List Nat} (l : Like is (wipe σ vs) σ2) (h : ∀ i ∈ is, i ∈ vs) : wipe σ2 vs = wipe σ vs := by
  have key : ∀ (τ : L2.St) (vs : List Nat) (j : Nat), (wipe τ vs)[j]? = if j ∈ vs ∧ j < τ.length then some none else τ[j]? := by
    intro τ vs
    induction vs with
    | nil => intro j; simp [wipe]
    | cons v vs ih =>
      intro j
      unfold wipe
      by_cases hj : v = j
      · subst hj
        by_cases hl : v < τ.length
        · rw [List.getElem?_set_self (by rw [wipe_length]; exact hl), if_pos ⟨List.mem_cons_self, hl⟩]
        · rw [List.getElem?_eq_none (by rw [List.length_set, wipe_length]; omega), if_neg (fun z => hl z.2), List.getElem?_eq_none (by omega)]
      · rw [List.getElem?_set_ne hj, ih]
        have : (j ∈ v :: vs ∧ j < τ.length) ↔ (j ∈ vs ∧ j < τ.length) := by
          rw [List.mem_cons]
          constructor
          · rintro ⟨z | z, y⟩
            · exact absurd z.symm hj
            · exact ⟨z, y⟩
          · rintro ⟨z, y⟩
            exact ⟨.inr z, y⟩
        simp only [this]
  have hl : σ2.length = σ.length := by rw [l.1, wipe_length]
  apply List.ext_getElem?
  intro j
  rw [key, key, hl]
  split
  · rfl
  · rename_i hc
    have q := l.2 j
    by_cases hj : j ∈ is
    · have hv := h j hj
      have : ¬ j < σ.length := fun z => hc ⟨hv, z⟩
      rw [List.getElem?_eq_none (by omega), List.getElem?_eq_none (by omega)]
    · rw [q hj, key, if_neg hc]
end
theorem compL_cons {g : List (Nat × List VV)} {step : VV → Hs → Out (Option VV)} {x : VV} {xs : List VV} {s S' : Hs} {r : List VV} (h : compL g step (x :: xs) s = .ok r S') :
    gokB s g = true ∧ ∃ o s1 r', step x s = .ok o s1 ∧ compL g step xs s1 = .ok r' S' ∧ r = o.toList ++ r' := by
  unfold compL at h
  split at h
  · rename_i hg
    obtain ⟨o, s1, e1, h⟩ := Out.bind_eq_ok h
    obtain ⟨r', s2, e2, h⟩ := Out.bind_eq_ok h
    cases h
    exact ⟨hg, o, s1, r', e1, e2, rfl⟩
  · cases h
section
variable {K : PySem.W.Frag} {w w0 : Wish} {cl : Cl}
theorem Res.mk {α : Type} {m : Mp} {H : Hp} {σ : L2.St} {x : α} {S : Hs} {k : α → Hs → Prop} (h : k x S) : Res K w m H σ (.ok x S) k := h
theorem lc_rd {d : Bool} {ir : Ex} {t : Tg} {it : It} {cs : List Ex} {own : List Nat} (ht : ∀ i ∈ tvs t, i ∈ own) {σ : L2.St} {H0 : Hp} {Q : VK} (q : rdE K w (ev cl (.comp d ir t it cs own)) σ H0 Q) :
    tLc (rdI K w (evIt cl it)) (rdG K t) (rdT K w0 (evC cl cs)) (rdE K w0 (ev cl ir)) own σ H0 Q := by
  obtain ⟨m, σv, S, st, q⟩ := q
  obtain ⟨step, hstep⟩ : ∃ step : VV → Hs → Out (Option VV), step = fun x s => match asg t x (wip σv own) with
        | none => .bad
        | some σ' => (evC cl cs σ' s).bind fun b s => if b then (ev cl ir σ' s).bind fun v s => .ok (some v) s else .ok none s := ⟨_, rfl⟩
  have q : Res K w m H0 σ ((evIt cl it σv S).bind fun r s => (noX (compL r.2 step r.1 s)).bind fun vs s => mkL d vs s) fun x S' => Post K m H0 x S' Q := by
    rw [hstep]; exact q
  refine ⟨m, σv, S, st, q.bind.imp fun src S1 q1 m1 H1 J x1 h1 wk D hD => ?_⟩
  obtain ⟨x, S', e, p⟩ := q1.ok (bind_noX (noX_noX _) fun x s v s' => mkL_noX _ _ _ _ _)
  obtain ⟨rs, Sf, e1, e2⟩ := Out.bind_eq_ok e
  have e1 := noX_eq e1
  have hlen : rs.length ≤ szL := by
    unfold mkL at e2
    split at e2
    · assumption
    · cases e2
  have hDm : D ∉ m1.av := fun z => (h1.apart D z).2 hD
  obtain ⟨Wp, hWp⟩ : ∃ Wp : Nat → Hp → Prop, Wp = fun i H' => i ≤ src.1.length ∧ ∃ M S2 acc accV rest, M.av = m1.av ∧ Ext m1 H1 M H' ∧ SimH K (M.apart D) H' S2 ∧ SimE K (M.apart D) H' (wip σv own) (wipe σ own) ∧ Wk K (M.apart D) H' src J ∧
    H' D = some (.lst accV) ∧ Rs K (M.apart D) H' acc accV ∧ compL src.2 step (src.1.drop i) S2 = .ok rest Sf ∧ rs = acc ++ rest := ⟨_, rfl⟩
  refine ⟨fun i n H' => n = src.1.length - i ∧ Wp i H', ⟨src.1.length, by simp, ?_⟩, ?_⟩
  · rw [hWp]
    exact ⟨Nat.zero_le _, m1, S1, [], [], rs, rfl, Ext.refl.upd_new hD, h1.aside hD, SimE.wip (SimE.aside hD (st.e.ext x1)) own, wk.aside hD, upd_same, .nil, e1, rfl⟩
  rintro i n H' ⟨rfl, hw⟩
  rw [hWp] at hw
  obtain ⟨hi, M, S2, acc, accV, rest, hav, ex, sh, se, wk2, hd, ra, ec, er⟩ := hw
  have hDM : D ∉ M.av := by rw [hav]; exact hDm
  have hDi : D ∉ M.ix := (sh.apart D List.mem_cons_self).1
  by_cases hlt : i < src.1.length
  · right
    rw [List.drop_eq_getElem_cons hlt] at ec
    obtain ⟨hg, ov, S3, rest', e3, e4, er'⟩ := compL_cons ec
    obtain ⟨go1, go2⟩ := wk2.go sh hg (List.getElem?_eq_getElem hlt)
    refine ⟨go1, Wp (i + 1), fun H'' h => ⟨src.1.length - (i + 1), by omega, rfl, h⟩, fun v H3 y => ?_⟩
    rw [hWp]
    obtain ⟨x3, s3, r3⟩ := go2 v H3 y
    rw [hstep] at e3
    dsimp only at e3
    split at e3
    · cases e3
    rename_i σ' ea
    obtain ⟨b, S4, e5, e6⟩ := Out.bind_eq_ok e3
    refine ⟨M.apart D, _, wip σv own, σ', r3, se.ext x3, ea, fun σ2 s2 lk => ⟨wipe_like lk ht, ?_⟩⟩
    refine ⟨M.apart D, σ', S2, ⟨s3, s2⟩, ?_⟩
    rw [e5]
    refine Res.mk ?_
    intro m5 H5 x5 s5
    have st5 : SimE K m5 H5 σ' σ2 := s2.ext x5
    cases b with
    | true =>
      rw [if_pos rfl]
      obtain ⟨vv, S6, e7, e8⟩ := Out.bind_eq_ok (show (ev cl ir σ' S4).bind _ = _ from e6)
      cases e8
      refine ⟨m5, σ', S4, ⟨s5, st5⟩, ?_⟩
      rw [e7]
      refine Res.mk ?_
      intro m6 H6 u x6 s6 r6
      have x7 := (x3.trans x5).trans x6
      obtain ⟨M', rfl, hav', x8⟩ := x7.unapart
      have hd6 : H6 D = some (.lst accV) := x7.keep D _ hd hDi
      have er2 : rs = (acc ++ [vv]) ++ rest' := by rw [er, er', List.append_assoc]; rfl
      refine ⟨accV, hd6, ?_, ?_⟩
      · have l1 := ra.length
        have l2 : rs.length = acc.length + 1 + rest'.length := by rw [er2, List.length_append, List.length_append, List.length_singleton]
        show accV.length < sizeLine
        have : szL = sizeLine := rfl
        omega
      · exact ⟨hlt, M', S3, acc ++ [vv], accV ++ [u], rest', hav'.trans hav, (ex.trans x8).upd_new hD, s6.put, (se.ext x7).put, (wk2.ext x7).put, upd_same, ((ra.ext x7).append (.cons r6 .nil)).put, e4, er2⟩
    | false =>
      rw [if_neg (by decide)]
      have e8 : Out.ok (none : Option VV) S4 = .ok ov S3 := e6
      cases e8
      have x7 := x3.trans x5
      obtain ⟨M', rfl, hav', x8⟩ := x7.unapart
      exact ⟨hlt, M', S3, acc, accV, rest', hav'.trans hav, ex.trans x8, s5, se.ext x7, wk2.ext x7, x7.keep D _ hd hDi, ra.ext x7, e4, by rw [er, er']; rfl⟩
  · left
    have hi' : src.1.length ≤ i := by omega
    rw [List.drop_eq_nil_of_le hi'] at ec
    have hg : gokB S2 src.2 = true ∧ Out.ok ([] : List VV) S2 = .ok rest Sf := by
      unfold compL at ec
      split at ec
      · exact ⟨by assumption, ec⟩
      · cases ec
    obtain ⟨hg, ec⟩ := hg
    cases ec
    refine ⟨wk2.stop sh hg hi', ?_⟩
    rw [List.append_nil] at er
    subst er
    unfold mkL at e2
    rw [if_pos hlen] at e2
    cases d with
    | true =>
      cases e2
      refine p (M.push D) H' _ (x1.trans (ex.adopt hD)) (sh.adopt hd hDM ra) (.ref ?_)
      · show (M.ix ++ [D])[_]? = some D
        rw [← show M.ix.length = _ from sh.len]
        simp
    | false =>
      cases e2
      exact p M H' _ (x1.trans ex) sh.back (.lst ⟨hd, hDi, hDM⟩ ra.back)
end
end Tw
set_option Elab.async false
set_option linter.all false
set_option autoImplicit false
set_option maxRecDepth 100000
/-! TwSet: {int for ..}. -/
namespace Tw
open PySem PySem.Spec PyProof.Rows L2
section
variable {X : Cx}
/-- an int is put into a set -/
theorem addI_ok {pins : List (Addr × Obj)} {σ : L2.St} {H : Hp} {s : Shared} {a : Ad} {M : Int → Bool} {n : Nat} {c : Int} {tk : Tok} {Q : Value → Shared → Prop} (I : Inv X pins σ H s) (ha : H a = some (SetO X.w a M n)) (hz : n + 1 < scanBound)
    (h : ∀ s', Inv X pins σ (upd H a (SetO X.w a (fun j => M j || decide (j = c)) (if M c = true then n else n + 1))) s' → Q .none s') {E : Value → Shared → Prop} : wpAny (model X.prog X.w) X.A (call (.builtin "set.add") [.ref a, .int c tk]) Q E s := by
  refine setR_add (setO_get I ha) hz fun h' same new => ?_
  have there : ∃ u, h'.get? a = some u := let ⟨o, _, _, _, ho, _⟩ := new; ⟨o, ho⟩
  exact h _ (I.write (e := a) (t' := s.toks + 1) (by rw [ha]; exact True.intro) (.inl rfl) (fun b u hb e => (same.2 b hb).trans e) there (setO_new new))
/-- what is asked of a set's comprehension: N the new set -/
def tSi (w : World) (wi : TI) (g : TG) (tt : TT) (te : TE) (vs : List Nat) : TE := fun σ H Q => wi σ H fun J Ha => ∀ N, Ha N = none → ∃ W : Nat → Nat → Hp → Prop, (∃ n, W 0 n (upd Ha N (SetO w N (fun _ => false) 0))) ∧ ∀ i n Hb, W i n Hb →
  (J.stop i Hb ∧ Q (.ref N) Hb) ∨ (J.go i Hb ∧ ∃ Nx : Hp → Prop, (∀ Hc, Nx Hc → ∃ n', n' < n ∧ W (i + 1) n' Hc) ∧ ∀ x Hc, J.yld i Hb x Hc → g x (wipe σ vs) Hc fun σ2 Hd => wipe σ2 vs = wipe σ vs ∧ tt σ2 Hd fun b He =>
    if b = true then te σ2 He fun y Hf => ∃ (c : Int) (M : Int → Bool) (k : Nat), y = .int c ∧ Hf N = some (SetO w N M k) ∧ k + 1 < scanBound ∧ Nx (upd Hf N (SetO w N (fun j => M j || decide (j = c)) (if M c = true then k else k + 1))) else Nx He)
theorem si_run {pins : List (Addr × Obj)} {s0 : Shared} {σ : L2.St} {H0 : Hp} {Q : VK} {elt tg iter : Expr} {ifs : List Expr} {scope : Scope} {own : List (Str × Nat)} {pos pos' : Pos} {wi : TI} {g : TG} {tt : TT} {te : TE} {use : Option (Value → Sem Unit)} {Qf : Value → Shared → Prop}
    (calm : X.calm = true) (nd : X.N.Nodup) (I0 : Inv X pins σ H0 s0) (hi : PI X tg iter wi) (ok : BlkOk X.N X.env.scope scope own) (hg : InBlk X scope fun Y => PG Y tg g) (ht : InBlk X scope fun Y => PTs Y ifs tt) (he : InBlk X scope fun Y => PE Y elt te)
    (fold : ∀ x, foldedSetIterable iter X.env x = pure x) (h : tSi X.w wi g tt te (own.map (·.2)) σ H0 Q)
    (after : ∀ N C s' m H', Inv X pins σ H' s' → Q (.ref N) H' → s'.heap.Ns C m → FpOk X pins H' C → compPost (model X.prog X.w) X.A X.xe use Qf (.ref N) C (.ok .next) s') :
    wpAny (model X.prog X.w) X.A (comprehension (.SetComp elt [⟨tg, iter, ifs, 0⟩] scope pos) scope X.env pos' (newSet (.type "set")) false (eval iter X.env) use) Qf X.xe s0 := by
  have hfree : ∀ y ∈ scope.names, y.2 = .free → ∃ c, X.env.cells.lookup y.1 = some c := fun y hy e => (ok.free y hy e).elim (fun z => I0.ok.has _ (.inl z)) fun z => I0.ok.has _ (.inr z)
  refine wpAny_comprehension_free (use := use) rfl fold (closure_ok hfree) ok.kind (fun y hy e => by rw [ok.uniq y hy, e]) (thn (hi.run pins s0 σ H0 _ I0 h) fun seqv sa qa => thn qa fun itv sb qb => ?_)
  obtain ⟨it, fp, inv, J, Ha, rfl, Ia, T, sta, fpa, q⟩ := qb
  refine PpSet.newSet_ok (newEnv_comp ?_)
  obtain ⟨N, hN⟩ : ∃ N, sb.heap.objs.size = N := ⟨_, rfl⟩
  rw [hN]
  have free : Ha N = none := Ia.hok.fresh (Nat.le_of_eq hN)
  obtain ⟨W, ⟨n0, w0⟩, turn⟩ := q N free
  obtain ⟨sc, hsc⟩ : ∃ sc : Shared, sc = { sb with heap := sb.heap.push { cls := .type "set", dict := none, data := .set #[] 0 (.fresh 0 0 (!X.w.params.followText "set-order")) } } := ⟨_, rfl⟩
  rw [← hsc]
  have hpc : sc.heap = sb.heap.push { cls := .type "set", dict := none, data := .set #[] 0 (.fresh 0 0 (!X.w.params.followText "set-order")) } := by rw [hsc]
  have Ic : Inv X pins σ (upd Ha N (SetO X.w N (fun _ => false) 0)) sc := by
    rw [hsc]
    refine Ia.laid (t' := sb.toks) (fun b o e => Heap.get?_push_of_some _ e) (Nat.le_of_eq hN) (setO_new ?_)
    have := setR_fresh (h := sb.heap) X.w
    rwa [hN] at this
  have below : ∀ b ∈ fp, b < sb.heap.objs.size := fun b hb => let ⟨o, e, _⟩ := T.obj _ _ sta b hb; Heap.lt_size e
  have fpc : ∀ b ∈ fp, FpOk X pins (upd Ha N (SetO X.w N (fun _ => false) 0)) b ∧ b < sc.heap.objs.size := fun b hb => by
    have lt := below b hb
    refine ⟨⟨?_, (fpa b hb).2⟩, by rw [hpc, Heap.size_push]; exact Nat.lt_succ_of_lt lt⟩
    rw [upd_ne (by rw [← hN]; exact Nat.ne_of_lt lt)]
    exact (fpa b hb).1
  have stc : inv 0 sc.heap := T.keep _ _ _ sta fun b _ o e => by rw [hpc]; exact Heap.get?_push_of_some _ e
  have Id := block_start Ic ok nd fpc
  obtain ⟨env, henv⟩ : ∃ env, env = compEnvC scope (cellsFrom (sc.heap.objs.size + 1) scope.names (cloFrom X.env.cells scope.names [])) sc.heap.objs.size X.env := ⟨_, rfl⟩
  have Pg := hg sc (upd Ha N (SetO X.w N (fun _ => false) 0)) sc.heap.objs.size (cellsFrom (sc.heap.objs.size + 1) scope.names (cloFrom X.env.cells scope.names [])) fp
  have Pt := ht sc (upd Ha N (SetO X.w N (fun _ => false) 0)) sc.heap.objs.size (cellsFrom (sc.heap.objs.size + 1) scope.names (cloFrom X.env.cells scope.names [])) fp
  have Pe := he sc (upd Ha N (SetO X.w N (fun _ => false) 0)) sc.heap.objs.size (cellsFrom (sc.heap.objs.size + 1) scope.names (cloFrom X.env.cells scope.names [])) fp
  obtain ⟨sd, hsd⟩ : ∃ sd : Shared, sd = { sc with heap := pushCells (sc.heap.push { cls := .type "dict", data := .dict #[] }) scope.names } := ⟨_, rfl⟩
  show codeAny _ _ (.compStart (.SetComp elt [⟨tg, iter, ifs, 0⟩] scope pos) 0 (.ref it) (.ref N) (compEnvC scope (cellsFrom (sc.heap.objs.size + 1) scope.names (cloFrom X.env.cells scope.names [])) sc.heap.objs.size X.env)) (compPost (model X.prog X.w) X.A X.xe use Qf (.ref N) sc.heap.objs.size)
    { sc with heap := pushCells (sc.heap.push { cls := .type "dict", data := .dict #[] }) scope.names }
  rw [← henv] at Id Pg Pt Pe ⊢
  rw [← hsd] at Id ⊢
  have locC : env.locals = sc.heap.objs.size := by rw [henv]; rfl
  have none_fp : ∀ b ∈ fp, (upd Ha N (SetO X.w N (fun _ => false) 0)) b = none := fun b hb => (fpc b hb).1.1
  obtain ⟨Hn, hHn⟩ : ∃ Hn, Hn = upd Ha N (SetO X.w N (fun _ => false) 0) := ⟨_, rfl⟩
  rw [← hHn] at Ic Id Pg Pt Pe w0 none_fp fpc
  have stD : inv 0 sd.heap := T.keep _ _ _ stc fun b _ o e => by rw [hsd]; exact pushCells_keeps _ _ _ _ (Heap.get?_push_of_some _ e)
  have still : ∀ {σ' : L2.St} {H' : Hp} {s' : Shared}, Inv (X.blk sc Hn scope env fp) [] σ' H' s' → (∀ b ∈ fp, H' b = none) → ∀ b ∈ fp, FpOk (X.blk sc Hn scope env fp) [] H' b := fun {σ' H' s'} I' no b hb =>
    ⟨no b hb, (I'.ok.exf b hb).1, I'.ok.exfs b hb, .inl hb, fun x c e => (I'.ok.exf b hb).2 x c e, fun p hp => absurd (show p ∈ ([] : List (Addr × Obj)) ++ [] from hp) (by simp)⟩
  let Turn : Nat → Shared → Prop := fun n s' => ∃ i H', Inv (X.blk sc Hn scope env fp) [] (wipe σ (own.map (·.2))) H' s' ∧ inv i s'.heap ∧ (∀ b ∈ fp, H' b = none) ∧ W i n H'
  have loop : codeAny (model X.prog X.w) X.A (.compLoop (.SetComp elt [⟨tg, iter, ifs, 0⟩] scope pos) 0 (.ref it) (.ref N) env) (compPost (model X.prog X.w) X.A X.xe use Qf (.ref N) sc.heap.objs.size) sd := by
    refine PpSet.compLoopS_any Turn ?_ n0 ⟨0, Hn, Id, stD, none_fp, w0⟩
    rintro n s1 ⟨i, H1, I1, st1, no1, w1⟩
    rcases turn i n H1 w1 with ⟨stop, fine⟩ | ⟨go, Nx, hNx, step⟩
    · refine thnF (T.done (X.blk sc Hn scope env fp) rfl rfl rfl calm i [] s1 _ H1 (fun _ _ => False) I1 (still I1 no1) st1 stop) fun r s2 qd => ?_
      obtain ⟨rfl, I2⟩ := qd
      have back : Inv X pins σ H1 s2 := Ic.call' (ch := fp) I2.os I2.base I2.hok I2.bare fun b hb => ⟨(fpc b hb).1.2.2.2.1, (fpc b hb).1.2.1, (fpc b hb).1.2.2.2.2.1, (fpc b hb).1.2.2.2.2.2⟩
      have noC : H1 sc.heap.objs.size = none := by
        have := (show H1 env.locals = none from I2.free)
        rwa [locC] at this
      obtain ⟨mm, ns, _⟩ := I2.loc
      have ns : s2.heap.Ns env.locals mm := ns
      rw [locC] at ns
      exact after N sc.heap.objs.size s2 mm H1 back fine ns (Ic.fpOk (Nat.le_refl _) noC)
    · refine thnF (T.item (X.blk sc Hn scope env fp) rfl rfl rfl calm i [] s1 _ H1 (fun _ _ => False) I1 (still I1 no1) st1 go) fun r s2 qi => ?_
      obtain ⟨u, rfl, h2⟩ := qi
      refine thnF h2 fun _ s3 q3 => ?_
      obtain ⟨x, H3, I3, r3, y3, st3, no3⟩ := q3
      have I3p := I3.pinned (still I3 no3) (T.obj _ _ st3)
      refine thnF (Pg.run _ s3 _ H3 x u _ I3p r3 (step x H3 y3)) fun _ s4 q4 => ?_
      obtain ⟨σ4, H4, I4, hw4, t4⟩ := q4
      refine thnF (Pt.run _ s4 σ4 H4 _ I4 t4) fun b s5 q5 => ?_
      obtain ⟨H5, I5, t5⟩ := q5
      have over : ∀ {s' : Shared} {H' : Hp}, Inv (X.blk sc Hn scope env fp) ([] ++ pinsAt fp s3.heap) σ4 H' s' → Nx H' → ∃ m, m < n ∧ Turn m s' := fun {s' H'} I' nx => by
        obtain ⟨m', lt, w'⟩ := hNx H' nx
        have pin : ∀ b ∈ fp, ∀ o, s3.heap.get? b = some o → s'.heap.get? b = some o ∧ H' b = none := fun b hb o e =>
          let z := I'.pin (b, o) (List.mem_append_right _ (List.mem_append_right _ (mem_pinsAt hb e)))
          ⟨z.1, z.2.1⟩
        have len : (wipe σ (own.map (·.2))).length = σ4.length := by rw [← hw4, wipe_length]
        refine ⟨m', lt, i + 1, H', (I'.unpinned (pins := [])).weak len (fun j v e => ?_), T.keep _ _ _ st3 fun b hb o e => (pin b hb o e).1, fun b hb => ?_, w'⟩
        · rw [← hw4] at e
          exact (wipe_some e).1
        · obtain ⟨o, e, _⟩ := T.obj _ _ st3 b hb
          exact (pin b hb o e).2
      cases b with
      | false =>
        have t5 : Nx H5 := by simpa using t5
        have := over I5 t5
        simpa using this
      | true =>
        rw [if_pos rfl]
        have t5 : te σ4 H5 fun y Hf => ∃ (c : Int) (M : Int → Bool) (k : Nat), y = .int c ∧ Hf N = some (SetO X.w N M k) ∧ k + 1 < scanBound ∧ Nx (upd Hf N (SetO X.w N (fun j => M j || decide (j = c)) (if M c = true then k else k + 1))) := by simpa using t5
        refine thnF (Pe.run _ s5 σ4 H5 _ I5 t5) fun vw s6 q6 => ?_
        obtain ⟨yv, H6, I6, r6, c, M, k, rfl, hN6, hz, nx⟩ := q6
        obtain ⟨tk, rfl⟩ := (show ∃ t, vw = Value.int c t from r6)
        exact addI_ok (X := X.blk sc Hn scope env fp) I6 hN6 hz fun s7 I7 => over I7 nx
  exact PpSet.codeAny_compStart_set loop (T.self X.A 0 _ _ _ stD loop)
/-- as a value -/
theorem pe_si {elt tg iter : Expr} {ifs : List Expr} {scope : Scope} {own : List (Str × Nat)} {pos : Pos} {wi : TI} {g : TG} {tt : TT} {te : TE} (calm : X.calm = true) (nd : X.N.Nodup) (hi : PI X tg iter wi) (ok : BlkOk X.N X.env.scope scope own)
    (hg : InBlk X scope fun Y => PG Y tg g) (ht : InBlk X scope fun Y => PTs Y ifs tt) (he : InBlk X scope fun Y => PE Y elt te) (fold : ∀ x, foldedSetIterable iter X.env x = pure x) :
    PE X (.SetComp elt [⟨tg, iter, ifs, 0⟩] scope pos) (tSi X.w wi g tt te (own.map (·.2))) := by
  refine ⟨fun pins s σ H Q I h => ?_⟩
  rw [PpSet.eval_SetComp]
  refine si_run calm nd I hi ok hg ht he fold h fun N C s' m H' I' q ns fpo => ⟨m, ns, fun h'' same => ?_⟩
  obtain ⟨f0, f1, f2, f3, f4, f5⟩ := fpo
  exact ⟨.ref N, H', I'.turned (t' := s'.toks) (fun b o hb e => (same.2 b hb).trans e) f0 f1 f3 f4 f5, rfl, q⟩
end
end Tw
set_option Elab.async false
set_option linter.all false
set_option autoImplicit false
set_option maxRecDepth 100000
/-! TwLc3: comprehensions of dicts and sets. -/
namespace Tw
open PySem PySem.Spec PyProof.Rows L2
/-- a dict's comprehension, however a pair is put in -/
def tXc (emp : Ad → HO) (ins : Ad → Hp → V → V → (Hp → Prop) → Prop) (wi : TI) (g : TG) (tt : TT) (tk tv : TE) (vs : List Nat) : TE := fun σ H Q => wi σ H fun J Ha => ∀ N, Ha N = none → ∃ W : Nat → Nat → Hp → Prop, (∃ n, W 0 n (upd Ha N (emp N))) ∧ ∀ i n Hb, W i n Hb →
  (J.stop i Hb ∧ Q (.ref N) Hb) ∨ (J.go i Hb ∧ ∃ Nx : Hp → Prop, (∀ Hc, Nx Hc → ∃ n', n' < n ∧ W (i + 1) n' Hc) ∧ ∀ x Hc, J.yld i Hb x Hc → g x (wipe σ vs) Hc fun σ2 Hd => wipe σ2 vs = wipe σ vs ∧ tt σ2 Hd fun b He =>
    if b = true then tk σ2 He fun y Hf => tv σ2 Hf fun z Hg => ins N Hg y z Nx else Nx He)
def empD (t : Bool) (N : Ad) : HO := if t then dicO N [] else .dK []
def insD (K : PySem.W.Frag) (t : Bool) (N : Ad) (H : Hp) (y z : V) (Nx : Hp → Prop) : Prop := if t then ∃ Hh, NPut K H N y z Hh ∧ Nx Hh else ∃ us j, y = kV j ∧ H N = some (.dK us) ∧ us.length < sizeLine ∧ Nx (upd H N (.dK (putK us j z)))
theorem putAll_cons {t : Bool} {k v : VV} {r : List VV} {acc kvs : List (VV × VV)} (h : putAll t (.tup [k, v] :: r) acc = some kvs) : ∃ d, keyD k = some d ∧ d.tu = t ∧ acc.length < szL ∧ putAll t r (putD acc k d v) = some kvs := by
  unfold putAll at h
  split at h
  · rename_i d hd
    split at h
    · rename_i hc
      exact ⟨d, hd, hc.1, hc.2, h⟩
    · cases h
  · cases h
section
variable {K : PySem.W.Frag} {w w0 : Wish} {cl : Cl}
theorem mkD_noX (m t : Bool) (kvs : List (VV × VV)) (s : Hs) (v : VV) (s' : Hs) : mkD m t kvs s ≠ .exc v s' := by
  unfold mkD
  split <;> (intro h; cases h)
theorem dc_rd {d t : Bool} {ik iv : Ex} {tg : Tg} {it : It} {cs : List Ex} {own : List Nat} (ht : ∀ i ∈ tvs tg, i ∈ own) {σ : L2.St} {H0 : Hp} {Q : VK} (q : rdE K w (ev cl (.dcomp d t ik iv tg it cs own)) σ H0 Q) :
    tXc (empD t) (insD K t) (rdI K w (evIt cl it)) (rdG K tg) (rdT K w0 (evC cl cs)) (rdE K w0 (ev cl ik)) (rdE K w0 (ev cl iv)) own σ H0 Q := by
  obtain ⟨m, σv, S, st, q⟩ := q
  obtain ⟨step, hstep⟩ : ∃ step : VV → Hs → Out (Option VV), step = fun x s => match asg tg x (wip σv own) with
        | none => .bad
        | some σ' => (evC cl cs σ' s).bind fun b s => if b then (ev cl ik σ' s).bind fun k s => (ev cl iv σ' s).bind fun v s => .ok (some (.tup [k, v])) s else .ok none s := ⟨_, rfl⟩
  have q : Res K w m H0 σ ((evIt cl it σv S).bind fun r s => (noX (compL r.2 step r.1 s)).bind fun vs s => (lift (putAll t vs []) s).bind fun kvs s => mkD d t kvs s) fun x S' => Post K m H0 x S' Q := by
    rw [hstep]; exact q
  refine ⟨m, σv, S, st, q.bind.imp fun src S1 q1 m1 H1 J x1 h1 wk D hD => ?_⟩
  obtain ⟨x, S', e, p⟩ := q1.ok (bind_noX (noX_noX _) fun x s => bind_noX (lift_noX _ _) fun kvs s => mkD_noX _ _ _ _)
  obtain ⟨rs, Sf, e1, e2⟩ := Out.bind_eq_ok e
  have e1 := noX_eq e1
  obtain ⟨kvs, Sg, e3, e4⟩ := Out.bind_eq_ok e2
  obtain ⟨e3', rfl⟩ := lift_eq_ok e3
  have hDm : D ∉ m1.av := fun z => (h1.apart D z).2 hD
  obtain ⟨Wp, hWp⟩ : ∃ Wp : Nat → Hp → Prop, Wp = fun i H' => i ≤ src.1.length ∧ ∃ M S2 acc o xs rest, M.av = m1.av ∧ Ext m1 H1 M H' ∧ SimH K (M.apart D) H' S2 ∧ SimE K (M.apart D) H' (wip σv own) (wipe σ own) ∧ Wk K (M.apart D) H' src J ∧
    H' D = some o ∧ dcO D t xs o ∧ Rp K (M.apart D) H' acc xs ∧ compL src.2 step (src.1.drop i) S2 = .ok rest Sg ∧ putAll t rest acc = some kvs := ⟨_, rfl⟩
  refine ⟨fun i n H' => n = src.1.length - i ∧ Wp i H', ⟨src.1.length, by simp, ?_⟩, ?_⟩
  · rw [hWp]
    refine ⟨Nat.zero_le _, m1, S1, [], empD t D, [], rs, rfl, Ext.refl.upd_new hD, h1.aside hD, SimE.wip (SimE.aside hD (st.e.ext x1)) own, wk.aside hD, upd_same, ?_, .nil, e1, e3'⟩
    cases t with
    | true => exact .inr ⟨rfl, [], rfl, rfl⟩
    | false => exact .inl ⟨rfl, [], rfl, rfl⟩
  rintro i n H' ⟨rfl, hw⟩
  rw [hWp] at hw
  obtain ⟨hi, M, S2, acc, o, xs, rest, hav, ex, sh, se, wk2, hd, hdc, ra, ec, er⟩ := hw
  have hDM : D ∉ M.av := by rw [hav]; exact hDm
  have hDi : D ∉ M.ix := (sh.apart D List.mem_cons_self).1
  by_cases hlt : i < src.1.length
  · right
    rw [List.drop_eq_getElem_cons hlt] at ec
    obtain ⟨hg, ov, S3, rest', e5, e6, er'⟩ := compL_cons ec
    obtain ⟨go1, go2⟩ := wk2.go sh hg (List.getElem?_eq_getElem hlt)
    refine ⟨go1, Wp (i + 1), fun H'' h => ⟨src.1.length - (i + 1), by omega, rfl, h⟩, fun v H3 y => ?_⟩
    rw [hWp]
    obtain ⟨x3, s3, r3⟩ := go2 v H3 y
    rw [hstep] at e5
    dsimp only at e5
    split at e5
    · cases e5
    rename_i σ' ea
    obtain ⟨b, S4, e7, e8⟩ := Out.bind_eq_ok e5
    refine ⟨M.apart D, _, wip σv own, σ', r3, se.ext x3, ea, fun σ2 s2 lk => ⟨wipe_like lk ht, ?_⟩⟩
    refine ⟨M.apart D, σ', S2, ⟨s3, s2⟩, ?_⟩
    rw [e7]
    refine Res.mk ?_
    intro m5 H5 x5 s5
    have st5 : SimE K m5 H5 σ' σ2 := s2.ext x5
    cases b with
    | true =>
      rw [if_pos rfl]
      obtain ⟨kk, S6, e9, e10⟩ := Out.bind_eq_ok (show (ev cl ik σ' S4).bind _ = _ from e8)
      obtain ⟨vv, S7, e11, e12⟩ := Out.bind_eq_ok (show (ev cl iv σ' S6).bind _ = _ from e10)
      cases e12
      refine ⟨m5, σ', S4, ⟨s5, st5⟩, ?_⟩
      rw [e9]
      refine Res.mk ?_
      intro m6 H6 u x6 s6 r6
      refine ⟨m6, σ', S6, ⟨s6, st5.ext x6⟩, ?_⟩
      rw [e11]
      refine Res.mk ?_
      intro m7 H7 u2 x7 s7 r7
      have x8 := ((x3.trans x5).trans x6).trans x7
      obtain ⟨M', rfl, hav', x9⟩ := x8.unapart
      have hd7 : H7 D = some o := x8.keep D _ hd hDi
      rw [er'] at er
      obtain ⟨dk, k1, k2, k3, k4⟩ := putAll_cons er
      obtain ⟨o', xs', p1, p2, p3, p4⟩ := put_rd (K := K) (m := M'.apart D) (H := H7) (z := vv) (v := u2) hd7 hdc (ra.ext x8) (r6.ext x7) k1 k2 k3 r7
      have fine : ∀ o2, o2 = o' → i + 1 ≤ src.1.length ∧ ∃ M' S2 acc o xs rest, M'.av = m1.av ∧ Ext m1 H1 M' (upd H7 D o2) ∧ SimH K (M'.apart D) (upd H7 D o2) S2 ∧ SimE K (M'.apart D) (upd H7 D o2) (wip σv own) (wipe σ own) ∧ Wk K (M'.apart D) (upd H7 D o2) src J ∧
          (upd H7 D o2) D = some o ∧ dcO D t xs o ∧ Rp K (M'.apart D) (upd H7 D o2) acc xs ∧ compL src.2 step (src.1.drop (i + 1)) S2 = .ok rest Sg ∧ putAll t rest acc = some kvs := fun o2 eo => by
        subst eo
        exact ⟨hlt, M', S3, _, _, xs', rest', hav'.trans hav, (ex.trans x9).upd_new hD, s7.put, (se.ext x8).put, (wk2.ext x8).put, upd_same, p3, p4.put, e6, k4⟩
      unfold insD
      cases t with
      | true =>
        rw [if_pos rfl]
        exact ⟨_, p1 rfl, fine _ rfl⟩
      | false =>
        rw [if_neg (by decide)]
        obtain ⟨us, j, f1, f2, f3, f4⟩ := p2 rfl
        exact ⟨us, j, f2, f1, f3, fine _ f4.symm⟩
    | false =>
      rw [if_neg (by decide)]
      have e13 : Out.ok (none : Option VV) S4 = .ok ov S3 := e8
      cases e13
      have x7 := x3.trans x5
      obtain ⟨M', rfl, hav', x8⟩ := x7.unapart
      exact ⟨hlt, M', S3, acc, o, xs, rest', hav'.trans hav, ex.trans x8, s5, se.ext x7, wk2.ext x7, x7.keep D _ hd hDi, hdc, ra.ext x7, e6, by rw [er'] at er; exact er⟩
  · left
    have hi' : src.1.length ≤ i := by omega
    rw [List.drop_eq_nil_of_le hi'] at ec
    have hg : gokB S2 src.2 = true ∧ Out.ok ([] : List VV) S2 = .ok rest Sg := by
      unfold compL at ec
      split at ec
      · exact ⟨by assumption, ec⟩
      · cases ec
    obtain ⟨hg, ec⟩ := hg
    cases ec
    refine ⟨wk2.stop sh hg hi', ?_⟩
    have er : some acc = some kvs := er
    cases er
    unfold mkD at e4
    cases d with
    | true =>
      cases e4
      refine p (M.push D) H' _ (x1.trans (ex.adopt hD)) (sh.adoptO hDM ⟨xs, o, hd, hdc, ra.adopt⟩) (.ref ?_)
      · show (M.ix ++ [D])[_]? = some D
        rw [← show M.ix.length = _ from sh.len]
        simp
    | false =>
      cases e4
      exact p M H' _ (x1.trans ex) sh.back (.dct hd ⟨hDi, hDM⟩ hdc ra.back)
end
/-! ### sorted({..}) -/
theorem insS_mem {a x : Int} : ∀ {l : List Int}, x ∈ insS a l ↔ x = a ∨ x ∈ l
  | [] => by simp [insS]
  | y :: l => by
    unfold insS
    split
    · simp
    · split
      · rename_i e
        subst e
        simp
      · rw [List.mem_cons, insS_mem (l := l), List.mem_cons]
        constructor
        · rintro (h | h | h)
          · exact .inr (.inl h)
          · exact .inl h
          · exact .inr (.inr h)
        · rintro (h | h | h)
          · exact .inr (.inl h)
          · exact .inl h
          · exact .inr (.inr h)
theorem insS_sorted {a : Int} : ∀ {l : List Int}, l.Pairwise (· < ·) → (insS a l).Pairwise (· < ·)
  | [], _ => by simp [insS]
  | y :: l, h => by
    rw [List.pairwise_cons] at h
    unfold insS
    split
    · rename_i hlt
      refine List.pairwise_cons.mpr ⟨fun z hz => ?_, List.pairwise_cons.mpr h⟩
      rcases List.mem_cons.mp hz with e | hz
      · rw [e]; exact hlt
      · have := h.1 z hz; omega
    · split
      · exact List.pairwise_cons.mpr h
      · rename_i h1 h2
        refine List.pairwise_cons.mpr ⟨fun z hz => ?_, insS_sorted h.2⟩
        rcases insS_mem.mp hz with e | hz
        · rw [e]; omega
        · exact h.1 z hz
theorem sortS_mem {x : Int} : ∀ {l : List Int}, x ∈ sortS l ↔ x ∈ l
  | [] => by simp [sortS]
  | y :: l => by
    unfold sortS
    rw [insS_mem, sortS_mem (l := l), List.mem_cons]
theorem sortS_sorted : ∀ {l : List Int}, (sortS l).Pairwise (· < ·)
  | [] => by simp [sortS]
  | y :: l => by
    unfold sortS
    exact insS_sorted sortS_sorted
theorem insS_len {a : Int} : ∀ {l : List Int}, l.Pairwise (· < ·) → (a ∈ l → (insS a l).length = l.length) ∧ (a ∉ l → (insS a l).length = l.length + 1)
  | [], _ => by simp [insS]
  | y :: l, h => by
    rw [List.pairwise_cons] at h
    obtain ⟨i1, i2⟩ := insS_len (a := a) h.2
    unfold insS
    split
    · rename_i hlt
      refine ⟨fun hm => ?_, fun _ => by simp⟩
      rcases List.mem_cons.mp hm with e | hm
      · omega
      · have := h.1 a hm; omega
    · split
      · rename_i e
        subst e
        exact ⟨fun _ => rfl, fun hm => absurd List.mem_cons_self hm⟩
      · rename_i h1 h2
        refine ⟨fun hm => ?_, fun hm => ?_⟩
        · rcases List.mem_cons.mp hm with e | hm
          · exact absurd e h2
          · rw [List.length_cons, List.length_cons, i1 hm]
        · rw [List.length_cons, List.length_cons, i2 (fun q => hm (List.mem_cons_of_mem _ q))]
theorem sortS_snoc {c : Int} : ∀ {l : List Int}, (c ∈ l → (sortS (l ++ [c])).length = (sortS l).length) ∧ (c ∉ l → (sortS (l ++ [c])).length = (sortS l).length + 1)
  | [] => by simp [sortS, insS]
  | y :: l => by
    obtain ⟨i1, i2⟩ := sortS_snoc (c := c) (l := l)
    show (_ → (insS y (sortS (l ++ [c]))).length = (insS y (sortS l)).length) ∧ (_ → (insS y (sortS (l ++ [c]))).length = (insS y (sortS l)).length + 1)
    obtain ⟨a1, a2⟩ := insS_len (a := y) (l := sortS (l ++ [c])) sortS_sorted
    obtain ⟨b1, b2⟩ := insS_len (a := y) (l := sortS l) sortS_sorted
    rw [sortS_mem] at a1 a2 b1 b2
    by_cases hy : y ∈ l
    · have q1 := a1 (List.mem_append_left _ hy)
      have q2 := b1 hy
      refine ⟨fun hc => ?_, fun hc => ?_⟩
      · rw [q1, q2]
        rcases List.mem_cons.mp hc with e | hc
        · subst e; exact i1 hy
        · exact i1 hc
      · rw [q1, q2]
        exact i2 fun q => hc (List.mem_cons_of_mem _ q)
    · have q2 := b2 hy
      by_cases hcy : c = y
      · subst hcy
        have q1 := a1 (List.mem_append_right _ (List.mem_singleton.mpr rfl))
        refine ⟨fun hc => ?_, fun hc => absurd List.mem_cons_self hc⟩
        rw [q1, q2, i2 hy]
      · have q1 := a2 (fun q => by
          rcases List.mem_append.mp q with q | q
          · exact hy q
          · exact hcy (List.mem_singleton.mp q).symm)
        refine ⟨fun hc => ?_, fun hc => ?_⟩
        · rcases List.mem_cons.mp hc with e | hc
          · exact absurd e hcy
          · rw [q1, q2, i1 hc]
        · rw [q1, q2, i2 fun q => hc (List.mem_cons_of_mem _ q)]
theorem sortS_mono : ∀ {r l : List Int}, (sortS l).length ≤ (sortS (l ++ r)).length
  | [], l => by simp
  | c :: r, l => by
    have := sortS_mono (r := r) (l := l ++ [c])
    rw [List.append_assoc] at this
    obtain ⟨i1, i2⟩ := sortS_snoc (c := c) (l := l)
    have h2 : (sortS l).length ≤ (sortS (l ++ [c])).length := by
      by_cases hc : c ∈ l
      · rw [i1 hc]; exact Nat.le_refl _
      · rw [i2 hc]; omega
    exact Nat.le_trans h2 this
theorem sortedS_uniq : ∀ {a b : List Int}, a.Pairwise (· < ·) → b.Pairwise (· < ·) → (∀ x, x ∈ a ↔ x ∈ b) → a = b
  | [], [], _, _, _ => rfl
  | [], y :: b, _, _, h => absurd ((h y).mpr List.mem_cons_self) (by simp)
  | x :: a, [], _, _, h => absurd ((h x).mp List.mem_cons_self) (by simp)
  | x :: a, y :: b, ha, hb, h => by
    rw [List.pairwise_cons] at ha hb
    have hxy : x = y := by
      rcases List.mem_cons.mp ((h x).mp List.mem_cons_self) with e | e
      · exact e
      · rcases List.mem_cons.mp ((h y).mpr List.mem_cons_self) with e2 | e2
        · exact e2.symm
        · have h1 := ha.1 y e2
          have h2 := hb.1 x e
          omega
    subst hxy
    rw [sortedS_uniq ha.2 hb.2 fun z => ⟨fun hz => ?_, fun hz => ?_⟩]
    · rcases List.mem_cons.mp ((h z).mp (List.mem_cons_of_mem _ hz)) with e | e
      · have := ha.1 z hz; omega
      · exact e
    · rcases List.mem_cons.mp ((h z).mpr (List.mem_cons_of_mem _ hz)) with e | e
      · have := hb.1 z hz; omega
      · exact e
section
variable {K : PySem.W.Frag} {w w0 : Wish} {cl : Cl}
theorem ints_app : ∀ {a b : List VV} {ns ms : List Int}, intsOf a = some ns → intsOf b = some ms → intsOf (a ++ b) = some (ns ++ ms)
  | [], b, _, _, e, f => by cases e; exact f
  | x :: a, b, _, _, e, f => by
    unfold intsOf mapO at e
    split at e
    · rename_i y ys e1 e2
      cases e
      have ih := ints_app (a := a) e2 f
      show mapO intOf (x :: (a ++ b)) = _
      unfold mapO
      rw [e1]
      have ih : mapO intOf (a ++ b) = some (ys ++ _) := ih
      rw [ih]
      rfl
    · cases e
theorem ints_split : ∀ {a b : List VV} {ns : List Int}, intsOf (a ++ b) = some ns → ∃ n1 n2, intsOf a = some n1 ∧ intsOf b = some n2 ∧ ns = n1 ++ n2
  | [], b, ns, e => ⟨[], ns, rfl, e, rfl⟩
  | x :: a, b, ns, e => by
    have e : mapO intOf (x :: (a ++ b)) = some ns := e
    unfold mapO at e
    split at e
    · rename_i y ys e1 e2
      cases e
      obtain ⟨n1, n2, h1, h2, h3⟩ := ints_split (a := a) (b := b) e2
      refine ⟨y :: n1, n2, ?_, h2, by rw [h3]; rfl⟩
      show mapO intOf (x :: a) = _
      unfold mapO
      have h1 : mapO intOf a = some n1 := h1
      rw [e1, h1]
    · cases e
theorem sc_rd (W : World) {d : Bool} {ir : Ex} {tg : Tg} {it : It} {cs : List Ex} {own : List Nat} (ht : ∀ i ∈ tvs tg, i ∈ own) {σ : L2.St} {H0 : Hp} {Q : VK} (q : rdE K w (ev cl (.scomp d ir tg it cs own)) σ H0 Q) :
    tCB (rSortedSet W) (tCons (tSi W (rdI K w (evIt cl it)) (rdG K tg) (rdT K w0 (evC cl cs)) (rdE K w0 (ev cl ir)) own) tNil) σ H0 Q := by
  obtain ⟨m, σv, S, st, q⟩ := q
  obtain ⟨step, hstep⟩ : ∃ step : VV → Hs → Out (Option VV), step = fun x s => match asg tg x (wip σv own) with
        | none => .bad
        | some σ' => (evC cl cs σ' s).bind fun b s => if b then (ev cl ir σ' s).bind fun v s => .ok (some v) s else .ok none s := ⟨_, rfl⟩
  have q : Res K w m H0 σ ((evIt cl it σv S).bind fun r s => (noX (compL r.2 step r.1 s)).bind fun vs s => (lift (intsOf vs) s).bind fun ns s => if (sortS ns).length < 64 then mkL d ((sortS ns).map .int) s else .bad) fun x S' => Post K m H0 x S' Q := by
    rw [hstep]; exact q
  refine ⟨m, σv, S, st, q.bind.imp fun src S1 q1 m1 H1 J x1 h1 wk D hD => ?_⟩
  obtain ⟨x, S', e, p⟩ := q1.ok (bind_noX (noX_noX _) fun x s => bind_noX (lift_noX _ _) fun ns s v s' h => by
    split at h
    · exact mkL_noX _ _ _ _ _ h
    · cases h)
  obtain ⟨rs, Sf, e1, e2⟩ := Out.bind_eq_ok e
  have e1 := noX_eq e1
  obtain ⟨ns, Sg, e3, e4⟩ := Out.bind_eq_ok e2
  obtain ⟨e3', rfl⟩ := lift_eq_ok e3
  split at e4
  rotate_left
  · cases e4
  rename_i h64
  have hb : 64 < scanBound := by decide
  have hDm : D ∉ m1.av := fun z => (h1.apart D z).2 hD
  obtain ⟨Wp, hWp⟩ : ∃ Wp : Nat → Hp → Prop, Wp = fun i H' => i ≤ src.1.length ∧ ∃ M S2 acc n1 rest mem k, M.av = m1.av ∧ Ext m1 H1 M H' ∧ SimH K (M.apart D) H' S2 ∧ SimE K (M.apart D) H' (wip σv own) (wipe σ own) ∧ Wk K (M.apart D) H' src J ∧
    H' D = some (SetO W D mem k) ∧ intsOf acc = some n1 ∧ (∀ j, mem j = true ↔ j ∈ n1) ∧ k = (sortS n1).length ∧ compL src.2 step (src.1.drop i) S2 = .ok rest Sg ∧ rs = acc ++ rest := ⟨_, rfl⟩
  refine ⟨fun i n H' => n = src.1.length - i ∧ Wp i H', ⟨src.1.length, by simp, ?_⟩, ?_⟩
  · rw [hWp]
    exact ⟨Nat.zero_le _, m1, S1, [], [], rs, fun _ => false, 0, rfl, Ext.refl.upd_new hD, h1.aside hD, SimE.wip (SimE.aside hD (st.e.ext x1)) own, wk.aside hD, upd_same, rfl, by simp, rfl, e1, rfl⟩
  rintro i n H' ⟨rfl, hw⟩
  rw [hWp] at hw
  obtain ⟨hi, M, S2, acc, n1, rest, mem, k, hav, ex, sh, se, wk2, hd, ra, hmem, hk, ec, er⟩ := hw
  have hDM : D ∉ M.av := by rw [hav]; exact hDm
  have hDi : D ∉ M.ix := (sh.apart D List.mem_cons_self).1
  by_cases hlt : i < src.1.length
  · right
    rw [List.drop_eq_getElem_cons hlt] at ec
    obtain ⟨hg, ov, S3, rest', e5, e6, er'⟩ := compL_cons ec
    obtain ⟨go1, go2⟩ := wk2.go sh hg (List.getElem?_eq_getElem hlt)
    refine ⟨go1, Wp (i + 1), fun H'' h => ⟨src.1.length - (i + 1), by omega, rfl, h⟩, fun v H3 y => ?_⟩
    rw [hWp]
    obtain ⟨x3, s3, r3⟩ := go2 v H3 y
    rw [hstep] at e5
    dsimp only at e5
    split at e5
    · cases e5
    rename_i σ' ea
    obtain ⟨b, S4, e7, e8⟩ := Out.bind_eq_ok e5
    refine ⟨M.apart D, _, wip σv own, σ', r3, se.ext x3, ea, fun σ2 s2 lk => ⟨wipe_like lk ht, ?_⟩⟩
    refine ⟨M.apart D, σ', S2, ⟨s3, s2⟩, ?_⟩
    rw [e7]
    refine Res.mk ?_
    intro m5 H5 x5 s5
    have st5 : SimE K m5 H5 σ' σ2 := s2.ext x5
    cases b with
    | true =>
      rw [if_pos rfl]
      obtain ⟨vv, S6, e9, e10⟩ := Out.bind_eq_ok (show (ev cl ir σ' S4).bind _ = _ from e8)
      cases e10
      refine ⟨m5, σ', S4, ⟨s5, st5⟩, ?_⟩
      rw [e9]
      refine Res.mk ?_
      intro m6 H6 u x6 s6 r6
      have x7 := (x3.trans x5).trans x6
      obtain ⟨M', rfl, hav', x8⟩ := x7.unapart
      have hd6 : H6 D = some (SetO W D mem k) := x7.keep D _ hd hDi
      have er2 : rs = (acc ++ [vv]) ++ rest' := by rw [er, er', List.append_assoc]; rfl
      obtain ⟨n3, n4, f1, f2, f3⟩ := ints_split (a := acc ++ [vv]) (b := rest') (by rw [← er2]; exact e3')
      obtain ⟨n5, n6, g1, g2, g3⟩ := ints_split f1
      rw [ra] at g1
      cases g1
      obtain ⟨c, rfl, rfl⟩ : ∃ c, vv = .int c ∧ n6 = [c] := by
        cases vv <;> simp [intsOf, mapO, intOf] at g2
        exact ⟨_, rfl, g2.symm⟩
      cases r6
      have mono := sortS_mono (l := n3) (r := n4)
      rw [← f3, g3] at mono
      obtain ⟨sn1, sn2⟩ := sortS_snoc (c := c) (l := n1)
      have hcm : mem c = true ↔ c ∈ n1 := hmem c
      have hkk : (if mem c = true then k else k + 1) = (sortS (n1 ++ [c])).length := by
        split
        · rename_i h; rw [sn1 (hcm.mp h), hk]
        · rename_i h; rw [sn2 (fun z => h (hcm.mpr z)), hk]
      have hle : k ≤ (sortS (n1 ++ [c])).length := by
        rw [← hkk]
        split <;> omega
      refine ⟨c, mem, k, rfl, hd6, by omega, hlt, M', S3, acc ++ [.int c], n1 ++ [c], rest', _, _, hav'.trans hav, (ex.trans x8).upd_new hD, s6.put, (se.ext x7).put, (wk2.ext x7).put, upd_same, by rw [← g3]; exact f1, fun j => ?_, hkk, e6, er2⟩
      rw [Bool.or_eq_true, hmem, List.mem_append, List.mem_singleton, decide_eq_true_eq]
    | false =>
      rw [if_neg (by decide)]
      have e13 : Out.ok (none : Option VV) S4 = .ok ov S3 := e8
      cases e13
      have x7 := x3.trans x5
      obtain ⟨M', rfl, hav', x8⟩ := x7.unapart
      exact ⟨hlt, M', S3, acc, n1, rest', mem, k, hav'.trans hav, ex.trans x8, s5, se.ext x7, wk2.ext x7, x7.keep D _ hd hDi, ra, hmem, hk, e6, by rw [er, er']; rfl⟩
  · left
    have hi' : src.1.length ≤ i := by omega
    rw [List.drop_eq_nil_of_le hi'] at ec
    have hg : gokB S2 src.2 = true ∧ Out.ok ([] : List VV) S2 = .ok rest Sg := by
      unfold compL at ec
      split at ec
      · exact ⟨by assumption, ec⟩
      · cases ec
    obtain ⟨hg, ec⟩ := hg
    cases ec
    refine ⟨wk2.stop sh hg hi', ?_⟩
    rw [List.append_nil] at er
    subst er
    rw [ra] at e3'
    cases e3'
    refine ⟨D, mem, k, rfl, hd, by rw [hk]; exact h64, fun ms P hs hm hl hP => ?_⟩
    have em : ms = sortS ns := sortedS_uniq hs sortS_sorted fun j => by rw [hm, hmem, sortS_mem]
    subst em
    have xM := x1.trans ex
    have p := p.ext xM
    obtain ⟨_, kk⟩ := post_mkL (K := K) (m := M) (H := H') sh.back Rs.of_ints e4 p
    exact kk P hP
end
end Tw
set_option Elab.async false
set_option linter.all false
set_option autoImplicit false
set_option maxRecDepth 100000
/-! TwStm: statements. -/
namespace Tw
open PySem PySem.Spec PyProof.Rows L2
section
variable {X : Cx} {w : Wish} {cl : Cl}
/-- nothing may leave a comprehension's block -/
abbrev Wish.shut (w : Wish) : Wish := ⟨fun _ _ _ _ => False, w.rx⟩
def STs (X : Cx) (w : Wish) (cl : Cl) (es : List Expr) (irs : List Ex) : Prop := PTs X es (rdT X.K w (evC cl irs))
theorem sts_nil : STs X w cl [] [] := ⟨fun pins s σ H Q I ⟨m, σv, S, st, q⟩ => pts_nil.run pins s σ H Q I (by
  have q : PostB X.K m H true S Q := q
  exact q m H Ext.refl st.h)⟩
theorem sts_one {e : Expr} {ir : Ex} (h : SB X w cl e ir) : STs X w cl [e] [ir] := ⟨fun pins s σ H Q I ⟨m, σv, S, st, q⟩ => (pts_one h.t).run pins s σ H Q I ⟨m, σv, S, st, by
  have q : Res X.K w m H σ ((ev cl ir σv S).bind fun v s => (lift (trV s v) s).bind fun t s => if t then Out.ok true s else .ok false s) fun x S' => PostB X.K m H x S' Q := q
  show Res X.K w m H σ ((ev cl ir σv S).bind fun v s => lift (trV s v) s) _
  refine Res.of_bind (q.bind.imp fun v S1 q1 => ?_)
  cases e : trV S1 v with
  | none => rw [e] at q1; exact q1.elim
  | some b =>
    rw [e] at q1
    cases b <;> exact q1⟩⟩
def notSet : Expr → Bool
  | .Set .. => false
  | _ => true
theorem notSet_ok {e : Expr} (h : notSet e = true) (env : Env) (x : Value) : foldedSetIterable e env x = pure x := by
  cases e <;> first | rfl | cases h
theorem se_comp {elt tg iter : Expr} {ifs : List Expr} {scope : Scope} {own : List (Str × Nat)} {pos : Pos} {d : Bool} {ir : Ex} {t : Tg} {it : It} {cs : List Ex} (hc : X.calm = true) (hN : X.N.Nodup) (hi : SI X w cl tg iter it) (hs : notSet iter = true) (ok : BlkOk X.N X.env.scope scope own) (ht : ∀ i ∈ tvs t, i ∈ own.map (·.2))
    (hb : ∀ (s : Shared) (H : Hp) (C : Addr) (cell : List (Str × Addr)) (fp : List Addr), PG (X.blk s H scope (compEnvC scope cell C X.env) fp) tg (rdG X.K t) ∧ STs (X.blk s H scope (compEnvC scope cell C X.env) fp) w.shut cl ifs cs ∧ SE (X.blk s H scope (compEnvC scope cell C X.env) fp) w.shut cl elt ir) :
    SB X w cl (.ListComp elt [⟨tg, iter, ifs, 0⟩] scope pos) (.comp d ir t it cs (own.map (·.2))) :=
  sb_of (PE.imp (pe_lc (g := rdG X.K t) (tt := rdT X.K w.shut (evC cl cs)) (te := rdE X.K w.shut (ev cl ir)) hc hN hi ok (fun s H C c fp => (hb s H C c fp).1) (fun s H C c fp => (hb s H C c fp).2.1) (fun s H C c fp => (hb s H C c fp).2.2) fun x => notSet_ok hs _ x) fun σ H Q q => lc_rd ht q) fun _ => rfl

theorem se_dcomp {kx vx tg iter : Expr} {ifs : List Expr} {scope : Scope} {own : List (Str × Nat)} {pos : Pos} {d t : Bool} {ik iv : Ex} {ti : Tg} {it : It} {cs : List Ex} (hu : X.A.units + 65 < cLine) (hc : X.calm = true) (hN : X.N.Nodup) (hi : SI X w cl tg iter it) (hs : notSet iter = true) (ok : BlkOk X.N X.env.scope scope own) (ht : ∀ i ∈ tvs ti, i ∈ own.map (·.2))
    (hb : ∀ (s : Shared) (H : Hp) (C : Addr) (cell : List (Str × Addr)) (fp : List Addr), PG (X.blk s H scope (compEnvC scope cell C X.env) fp) tg (rdG X.K ti) ∧ STs (X.blk s H scope (compEnvC scope cell C X.env) fp) w.shut cl ifs cs ∧ SE (X.blk s H scope (compEnvC scope cell C X.env) fp) w.shut cl kx ik ∧ SE (X.blk s H scope (compEnvC scope cell C X.env) fp) w.shut cl vx iv) :
    SB X w cl (.DictComp kx vx [⟨tg, iter, ifs, 0⟩] scope pos) (.dcomp d t ik iv ti it cs (own.map (·.2))) := by
  cases t with
  | true => exact sb_of (PE.imp (pe_nc (g := rdG X.K ti) (tt := rdT X.K w.shut (evC cl cs)) (tk := rdE X.K w.shut (ev cl ik)) (tv := rdE X.K w.shut (ev cl iv)) hu hc hN hi ok (fun s H C c fp => (hb s H C c fp).1) (fun s H C c fp => (hb s H C c fp).2.1) (fun s H C c fp => (hb s H C c fp).2.2.1) (fun s H C c fp => (hb s H C c fp).2.2.2) fun x => notSet_ok hs _ x) fun σ H Q q => dc_rd ht q) fun _ => rfl
  | false => exact sb_of (PE.imp (pe_dc (g := rdG X.K ti) (tt := rdT X.K w.shut (evC cl cs)) (tk := rdE X.K w.shut (ev cl ik)) (tv := rdE X.K w.shut (ev cl iv)) hc hN hi ok (fun s H C c fp => (hb s H C c fp).1) (fun s H C c fp => (hb s H C c fp).2.1) (fun s H C c fp => (hb s H C c fp).2.2.1) (fun s H C c fp => (hb s H C c fp).2.2.2) fun x => notSet_ok hs _ x) fun σ H Q q => dc_rd ht q) fun _ => rfl
/-- sorted({..}) -/
theorem se_sset {elt tg iter : Expr} {ifs : List Expr} {scope : Scope} {own : List (Str × Nat)} {p pos pos' : Pos} {d : Bool} {ir : Ex} {ti : Tg} {it : It} {cs : List Ex} (hg : Gl X "sorted") (hm : X.mg "sorted" = none) (hc : X.calm = true) (hN : X.N.Nodup) (hi : SI X w cl tg iter it) (hs : notSet iter = true) (ok : BlkOk X.N X.env.scope scope own) (ht : ∀ i ∈ tvs ti, i ∈ own.map (·.2))
    (hb : ∀ (s : Shared) (H : Hp) (C : Addr) (cell : List (Str × Addr)) (fp : List Addr), PG (X.blk s H scope (compEnvC scope cell C X.env) fp) tg (rdG X.K ti) ∧ STs (X.blk s H scope (compEnvC scope cell C X.env) fp) w.shut cl ifs cs ∧ SE (X.blk s H scope (compEnvC scope cell C X.env) fp) w.shut cl elt ir) :
    SB X w cl (.Call (.Name "sorted" p) [.SetComp elt [⟨tg, iter, ifs, 0⟩] scope pos] [] pos') (.scomp d ir ti it cs (own.map (·.2))) :=
  sb_of (PE.imp (pe_callB (cr_sortedSet hc) hg hm (by decide +kernel) (pa_cons (pe_si (g := rdG X.K ti) (tt := rdT X.K w.shut (evC cl cs)) (te := rdE X.K w.shut (ev cl ir)) hc hN hi ok (fun s H C c fp => (hb s H C c fp).1) (fun s H C c fp => (hb s H C c fp).2.1) (fun s H C c fp => (hb s H C c fp).2.2) fun x => notSet_ok hs _ x) pa_nil)) fun σ H Q q => sc_rd X.w ht q) fun _ => rfl
/-- d.get(k, x) -/
theorem se_get {o e f : Expr} {io ie jf : Ex} {apos cpos : Pos} (hu : X.A.units + 65 < cLine) (ho : SE X w cl o io) (he : SE X w cl e ie) (hf : SE X w cl f jf) (hn : notStar e = true) (hn2 : notStar f = true) (hbase : okBase o = true) (hline : (apos.endLine == cpos.line) = true) :
    SB X w cl (.Call (.Attribute o "get" apos) [e, f] [] cpos) (.bm .get io [ie, jf]) := by
  refine sb_of (PE.imp (pe_getX hu ho he hf ⟨base_ok hbase, few_ok (by simpa using ⟨hn, hn2⟩) (Nat.lt_of_lt_of_le (Nat.lt_succ_self 2) (by decide : 3 ≤ 30)), hline, by rw [star_cons hn, star_cons hn2]; rfl⟩) fun σ H Q ⟨m, σv, S, s, q⟩ => ?_) fun _ => rfl
  have q : Res X.K w m H σ ((ev cl io σv S).bind fun v s => (lift (bmTy .get v s) s).bind fun _ s => (evs cl [ie, jf] σv s).bind fun vs s => bmV .get v vs s) fun x S' => Post X.K m H x S' Q := q
  refine rd_then s (q.bind.imp fun x S1 q1 m1 H1 v x1 s1 r1 => ?_)
  obtain ⟨u, S2, e1, q2⟩ := q1.bind.ok (lift_noX _ _)
  obtain ⟨e2, rfl⟩ := lift_eq_ok e1
  obtain ⟨⟨t, kvs⟩, e3, _⟩ := Option.map_eq_some_iff.mp (show (dctOf S2 x).map (fun _ => ()) = some u from e2)
  obtain ⟨a, ob, xs, rfl, h1, h2, h3⟩ := dct_rd s1.h r1 e3
  have isx : IsX X.K H1 a := by
    rcases h2 with ⟨rfl, ps, rfl, rfl⟩ | ⟨rfl, ps, rfl, rfl⟩
    · exact .inl (.inl ⟨_, .inl h1⟩)
    · exact .inr ⟨ps, h1, h3.keys⟩
  refine ⟨a, rfl, isx, ?_⟩
  have q3 : Res X.K w m H σ (((ev cl ie σv S2).bind fun y s => (ev cl jf σv s).bind fun z s => (Out.ok [z] s).bind fun vs s => .ok (y :: vs) s).bind fun vs s => bmV .get x vs s) fun x S' => Post X.K m H x S' Q := by
    have e0 : (evs cl [ie, jf] σv S2) = (ev cl ie σv S2).bind fun y s => (ev cl jf σv s).bind fun z s => (Out.ok [z] s).bind fun vs s => .ok (y :: vs) s := by
      show (ev cl ie σv S2).bind (fun y s => ((ev cl jf σv s).bind fun z s => (Out.ok [] s).bind fun vs s => .ok (z :: vs) s).bind fun vs s => .ok (y :: vs) s) = _
      congr 1
      funext y s
      rw [Out.bind_assoc]
      rfl
    rw [← e0]
    exact q2
  rw [Out.bind_assoc] at q3
  refine rd_then s1 ((q3.bind.ext x1).imp fun y S3 q4 m2 H2 wk x2 s2 r2 => ?_)
  rw [Out.bind_assoc] at q4
  refine rd_then s2 (((q4.bind.ext x1).ext x2).imp fun z S4 q5 m3 H3 wz x3 s3 r3 => ?_)
  obtain ⟨zz, S', e5, p⟩ := Res.ok (show Res X.K w m H σ (bmV .get x [y, z] S4) _ from q5) (bmV_noX _ _ _ _)
  have e5 : (match getDV S4 x y with
    | some o => Out.ok (o.getD z) S4
    | none => .bad) = .ok zz S' := e5
  split at e5
  · rename_i o eo
    cases e5
    obtain ⟨a', r, ea, g1, g2⟩ := get_rd s3.h ((r1.ext x2).ext x3) (r2.ext x3) eo
    cases ea
    refine ⟨r, g1, ?_⟩
    cases o with
    | none =>
      cases r with
      | none => exact p m3 H3 _ (((x1.trans x2).trans x3)) s3.h r3
      | some _ => exact g2.elim
    | some vv =>
      cases r with
      | none => exact g2.elim
      | some _ => exact p m3 H3 _ (((x1.trans x2).trans x3)) s3.h g2
  · cases e5
/-! ### statements -/
def PF (K : PySem.W.Frag) (w : Wish) (m : Mp) (H : Hp) (D : Ends) (r : Fl) (S' : Hs) : Prop := match r with
  | .nx σv' => ∀ m' H' σ', Ext m H m' H' → Sit K m' σv' S' σ' H' → D.nx σ' H'
  | .ct σv' => ∀ m' H' σ', Ext m H m' H' → Sit K m' σv' S' σ' H' → D.ct σ' H'
  | .bk σv' => ∀ m' H' σ', Ext m H m' H' → Sit K m' σv' S' σ' H' → D.bk σ' H'
  | .rt v => ∀ m' H' u, Ext m H m' H' → SimH K m' H' S' → R K m' H' v u → D.rt u H'
  | .xc v σv' => ∀ m' H' σ' c d, Ext m H m' H' → Sit K m' σv' S' σ' H' → w.rx m' H' v c d → w.W c d σ' H'
theorem PF.ext {K : PySem.W.Frag} {m m1 : Mp} {H H1 : Hp} {D : Ends} {r : Fl} {S' : Hs} (e : Ext m H m1 H1) (p : PF K w m H D r S') : PF K w m1 H1 D r S' := by
  cases r with
  | nx σv => exact fun m' H' σ' e' => p m' H' σ' (e.trans e')
  | ct σv => exact fun m' H' σ' e' => p m' H' σ' (e.trans e')
  | bk σv => exact fun m' H' σ' e' => p m' H' σ' (e.trans e')
  | rt v => exact fun m' H' σ' e' => p m' H' σ' (e.trans e')
  | xc v σv => exact fun m' H' σ' c d e' => p m' H' σ' c d (e.trans e')
def rdS (K : PySem.W.Frag) (w : Wish) (f : Sv → Hs → Out Fl) : TS := fun D σ H => ∃ m σv S r S', Sit K m σv S σ H ∧ f σv S = .ok r S' ∧ PF K w m H D r S'
def SS (X : Cx) (w : Wish) (cl : Cl) (sts : List Stmt) (irs : List Stm) : Prop := PSs X sts (rdS X.K w (exs cl irs))
def S1 (X : Cx) (w : Wish) (cl : Cl) (st : Stmt) (ir : Stm) : Prop := PS X st (rdS X.K w (exe cl ir))
theorem PS.imp {st : Stmt} {t t' : TS} (h : PS X st t) (i : ∀ D σ H, t' D σ H → t D σ H) : PS X st t' := ⟨fun pins s σ H D I q => h.run pins s σ H D I (i D σ H q)⟩
theorem PSs.imp {st : List Stmt} {t t' : TS} (h : PSs X st t) (i : ∀ D σ H, t' D σ H → t D σ H) : PSs X st t' := ⟨fun pins s σ H D I q => h.run pins s σ H D I (i D σ H q)⟩
theorem cat_ok {α : Type} {K : PySem.W.Frag} {m : Mp} {σv : Sv} {S S' : Hs} {σ : L2.St} {H : Hp} {D : Ends} {o : Out α} {g : α → Hs → Out Fl} {r : Fl} (e : cat σv (o.bind g) = .ok r S') (st : Sit K m σv S σ H) (p : PF K w m H D r S') :
    Res K w m H σ o fun x S1 => cat σv (g x S1) = .ok r S' := by
  cases o with
  | ok x S1 => exact e
  | bad => cases e
  | exc v S1 =>
    cases e
    exact fun m' H' c d e' h r => p m' H' σ c d e' ⟨h, st.e.ext e'⟩ r
theorem cat_eq {α : Type} {σv : Sv} {o : Option α} {S S' : Hs} {g : α → Hs → Out Fl} {r : Fl} (e : cat σv ((lift o S).bind g) = .ok r S') : ∃ a, o = some a ∧ cat σv (g a S) = .ok r S' := by
  cases o with
  | none => cases e
  | some a => exact ⟨a, rfl, e⟩
theorem cat_in {σv : Sv} {o : Out Fl} {r : Fl} {S' : Hs} (n : ∀ v s, o ≠ .exc v s) (e : cat σv o = .ok r S') : o = .ok r S' := by
  cases o with
  | ok x S1 => exact e
  | bad => cases e
  | exc v S1 => exact absurd rfl (n v S1)
theorem cat_noX (σv : Sv) (o : Out Fl) (v : VV) (s : Hs) : cat σv o ≠ .exc v s := by
  intro h
  cases o <;> cases h
theorem whileL_noX (t : Sv → Hs → Out Bool) (f : Sv → Hs → Out Fl) (n : Nat) (σ : Sv) (s : Hs) (v : VV) (s' : Hs) : whileL t f n σ s ≠ .exc v s' := by
  cases n with
  | zero => intro h; cases h
  | succ n => exact cat_noX _ _ _ _
theorem tryF_noX (cs : List String) (i j : Nat) (f : Fl) (s : Hs) (v : VV) (s' : Hs) : tryF cs i j f s ≠ .exc v s' := by
  unfold tryF
  repeat' split
  all_goals (intro h; cases h)
theorem exe_noX (st : Stm) (σ : Sv) (s : Hs) (v : VV) (s' : Hs) : exe cl st σ s ≠ .exc v s' := by
  cases st with
  | aug i o e =>
    show (match σ[i]? with
      | some (some x) => cat σ _
      | _ => Out.bad) ≠ _
    split
    · exact cat_noX _ _ _ _
    · intro h; cases h
  | whl c b =>
    show whileL (fun σ s => (ev cl c σ s).bind fun x s => lift (trV s x) s) (fun σ s => exs cl b σ s) wfuel σ s ≠ .exc v s'
    exact whileL_noX _ _ _ _ _ _ _
  | tryk b cs i j => exact bind_noX (noX_noX _) (fun f s v s' => tryF_noX _ _ _ _ _ _ _) v s'
  | brk => intro h; cases h
  | cnt => intro h; cases h
  | pss => intro h; cases h
  | never => intro h; cases h
  | _ => exact cat_noX _ _ _ _
theorem exs_noX : ∀ (sts : List Stm) (σ : Sv) (s : Hs) (v : VV) (s' : Hs), exs cl sts σ s ≠ .exc v s'
  | [], _, _, _, _, h => by cases h
  | st :: r, σ, s, v, s', h => bind_noX (g := fun f s => match f with
    | .nx σ => exs cl r σ s
    | f => .ok f s) (o := exe cl st σ s) (exe_noX st σ s) (fun f s1 v1 s2 h1 => by
      cases f with
      | nx σ1 => exact exs_noX r σ1 s1 v1 s2 h1
      | _ => cases h1) v s' h
theorem ss_nil : SS X w cl [] [] := PSs.imp pss_nil fun D σ H ⟨m, σv, S, r, S', st, e, p⟩ => by
  cases e
  exact p m H σ Ext.refl st
theorem ss_cons {st : Stmt} {sts : List Stmt} {ir : Stm} {irs : List Stm} (h : S1 X w cl st ir) (t : SS X w cl sts irs) : SS X w cl (st :: sts) (ir :: irs) :=
  PSs.imp (pss_cons h t) fun D σ H ⟨m, σv, S, r, S', s, e, p⟩ => by
    obtain ⟨f, S2, e1, e2⟩ := Out.bind_eq_ok (show (exe cl ir σv S).bind _ = _ from e)
    refine ⟨m, σv, S, f, S2, s, e1, ?_⟩
    cases f with
    | nx σ1 => exact fun m' H' σ' x s' => ⟨m', σ1, S2, r, S', s', e2, p.ext x⟩
    | ct σ1 => cases e2; exact p
    | bk σ1 => cases e2; exact p
    | rt v => cases e2; exact p
    | xc v σ1 => cases e2; exact p
theorem ss_doc {x j pos pos'} {sts : List Stmt} {irs : List Stm} (t : SS X w cl sts irs) : SS X w cl (.Expr (.Constant (.str x) j pos) pos' :: sts) irs :=
  PSs.imp (pss_cons ps_doc t) fun D σ H q => q
theorem s1_asg {tg e : Expr} {ir : Ex} {t : Tg} {pos : Pos} {sc : Shared} (he : SE X w cl e ir) (hg : PG X tg (rdG X.K t)) (hs : swapsWithSole [tg] e pos.line X.env = pure false) (hw : swappedStores [tg] e X.env = pure none)
    (h1 : (assignEach [tg] X.env).map (·.2) = [assign tg X.env]) : S1 X w cl (.Assign [tg] e pos) (.asg t ir) :=
  PS.imp (ps_asg he hg hs hw h1) fun D σ H ⟨m, σv, S, r, S', s, e1, p⟩ => by
    have e1 : cat σv ((ev cl ir σv S).bind fun v s => lift ((asg t v σv).map Fl.nx) s) = .ok r S' := e1
    refine rd_then s ((cat_ok e1 s p).imp fun v Sa e2 m1 H1 u x1 s1 r1 => ?_)
    have e3 := cat_in (lift_noX _ _) e2
    cases e4 : asg t v σv with
    | none => rw [e4] at e3; cases e3
    | some σ' =>
      rw [e4] at e3
      cases e3
      exact ⟨m1, v, σv, σ', r1, s1.e, e4, fun σ2 s2 _ => p m1 H1 σ2 x1 ⟨s1.h, s2⟩⟩
/-- name = [..] on one line -/
theorem s1_lc {i : Nat} {y : Str} {py : Pos} {elt tg iter : Expr} {ifs : List Expr} {scope : Scope} {own : List (Str × Nat)} {pos spos : Pos} {d : Bool} {ir : Ex} {t : Tg} {it : It} {cs : List Ex} (hc : X.calm = true) (hN : X.N.Nodup) (hy : X.N[i]? = some y) (hyl : X.env.scope.names.lookup y = some .local)
    (hsw : swapsWith (.ListComp elt [⟨tg, iter, ifs, 0⟩] scope pos) (some (.Name y py)) spos.line X.env = pure true) (hi : SI X w cl tg iter it) (hs : notSet iter = true) (ok : BlkOk X.N X.env.scope scope own) (ht : ∀ i ∈ tvs t, i ∈ own.map (·.2))
    (hb : ∀ (s : Shared) (H : Hp) (C : Addr) (cell : List (Str × Addr)) (fp : List Addr), PG (X.blk s H scope (compEnvC scope cell C X.env) fp) tg (rdG X.K t) ∧ STs (X.blk s H scope (compEnvC scope cell C X.env) fp) w.shut cl ifs cs ∧ SE (X.blk s H scope (compEnvC scope cell C X.env) fp) w.shut cl elt ir) :
    S1 X w cl (.Assign [.Name y py] (.ListComp elt [⟨tg, iter, ifs, 0⟩] scope pos) spos) (.asg (.var i) (.comp d ir t it cs (own.map (·.2)))) :=
  PS.imp (ps_setLc (g := rdG X.K t) (tt := rdT X.K w.shut (evC cl cs)) (te := rdE X.K w.shut (ev cl ir)) hc hN hy hyl hsw hi ok (fun s H C c fp => (hb s H C c fp).1) (fun s H C c fp => (hb s H C c fp).2.1) (fun s H C c fp => (hb s H C c fp).2.2) fun x => notSet_ok hs _ x) fun D σ H ⟨m, σv, S, r, S', s, e1, p⟩ => by
    have e1 : cat σv ((ev cl (.comp d ir t it cs (own.map (·.2))) σv S).bind fun v s => lift ((asg (.var i) v σv).map Fl.nx) s) = .ok r S' := e1
    refine lc_rd ht ⟨m, σv, S, s, (cat_ok e1 s p).imp fun v Sa e2 m1 H1 u x1 h1 r1 => ?_⟩
    cases e2
    exact p m1 H1 _ x1 ⟨h1, (s.e.ext x1).set r1 i⟩
theorem s1_par2 {i j : Nat} {x y : Str} {a b : Expr} {ia ib : Ex} {px py pt pos pt2 : Pos} {kt k2 : Nat} (hc : X.calm = true) (hN : X.N.Nodup) (hi : X.N[i]? = some x) (hj : X.N[j]? = some y) (hij : i ≠ j)
    (hx : X.env.scope.names.lookup x = some .local) (hy : X.env.scope.names.lookup y = some .local) (ha : SA X w cl [a, b] [ia, ib])
    (hw : swappedStores [.Tuple [.Name x px, .Name y py] kt pt] (.Tuple [a, b] k2 pt2) X.env = pure (some [x, y])) :
    S1 X w cl (.Assign [.Tuple [.Name x px, .Name y py] kt pt] (.Tuple [a, b] k2 pt2) pos) (.asg (.tup [.var i, .var j]) (.tup [ia, ib])) :=
  PS.imp (ps_par hc hN hi hj hij hx hy ha hw) fun D σ H ⟨m, σv, S, r, S', s, e1, p⟩ => by
    have e1 : cat σv (((evs cl [ia, ib] σv S).bind fun vs s => mkT vs s).bind fun v s => lift ((asg (.tup [.var i, .var j]) v σv).map Fl.nx) s) = .ok r S' := e1
    rw [Out.bind_assoc] at e1
    refine rd_thenA s (Res.imp_eq (cat_ok e1 s p) fun vs Sa ee e2 m1 H1 u x1 s1 r1 => ?_)
    have l1 := evs_len ee
    match vs, l1, r1, e2 with
    | [v1, v2], _, .cons ra (.cons rb .nil), e2 =>
      unfold mkT at e2
      rw [if_pos (by simp only [List.length]; decide)] at e2
      cases e2
      exact ⟨_, _, rfl, p m1 H1 _ x1 ⟨s1.h, (s1.e.set ra i).set rb j⟩⟩
theorem s1_par3 {i j l : Nat} {x y z : Str} {a b c : Expr} {ia ib ic : Ex} {px py pz pt pos pt2 : Pos} {kt k2 : Nat} (hc : X.calm = true) (hN : X.N.Nodup) (hi : X.N[i]? = some x) (hj : X.N[j]? = some y) (hl : X.N[l]? = some z) (hij : i ≠ j) (hil : i ≠ l) (hjl : j ≠ l)
    (hx : X.env.scope.names.lookup x = some .local) (hy : X.env.scope.names.lookup y = some .local) (hz : X.env.scope.names.lookup z = some .local) (ha : SA X w cl [a, b, c] [ia, ib, ic])
    (hw : swappedStores [.Tuple [.Name x px, .Name y py, .Name z pz] kt pt] (.Tuple [a, b, c] k2 pt2) X.env = pure (some [x, y, z])) :
    S1 X w cl (.Assign [.Tuple [.Name x px, .Name y py, .Name z pz] kt pt] (.Tuple [a, b, c] k2 pt2) pos) (.asg (.tup [.var i, .var j, .var l]) (.tup [ia, ib, ic])) :=
  PS.imp (ps_par3 hc hN hi hj hl hij hil hjl hx hy hz ha hw) fun D σ H ⟨m, σv, S, r, S', s, e1, p⟩ => by
    have e1 : cat σv (((evs cl [ia, ib, ic] σv S).bind fun vs s => mkT vs s).bind fun v s => lift ((asg (.tup [.var i, .var j, .var l]) v σv).map Fl.nx) s) = .ok r S' := e1
    rw [Out.bind_assoc] at e1
    refine rd_thenA s (Res.imp_eq (cat_ok e1 s p) fun vs Sa ee e2 m1 H1 u x1 s1 r1 => ?_)
    have l1 := evs_len ee
    match vs, l1, r1, e2 with
    | [v1, v2, v3], _, .cons ra (.cons rb (.cons rc .nil)), e2 =>
      unfold mkT at e2
      rw [if_pos (by simp only [List.length]; decide)] at e2
      cases e2
      exact ⟨_, _, _, rfl, p m1 H1 _ x1 ⟨s1.h, ((s1.e.set ra i).set rb j).set rc l⟩⟩
/-- o[i] = e -/
theorem s1_sub {o i e : Expr} {io ii ie : Ex} {p2 pos : Pos} (hu : X.A.units + 65 < cLine) (hs : okSub i = true) (ho : SE X w cl o io) (hi : SE X w cl i ii) (he : SE X w cl e ie) (hsw : swapsWithSole [.Subscript o i p2] e pos.line X.env = pure false) (hw : swappedStores [.Subscript o i p2] e X.env = pure none) :
    S1 X w cl (.Assign [.Subscript o i p2] e pos) (.sub io ii ie) :=
  PS.imp (ps_asg he (pg_sub ho hi (Tw.PSet.or set_list (set_X hu)) (fun v => by cases i <;> first | rfl | cases hs)) hsw hw (by rfl)) fun D σ H ⟨m, σv, S, r, S', s, e1, p⟩ => by
    have e1 : cat σv ((ev cl ie σv S).bind fun v s => (ev cl io σv s).bind fun x s => (ev cl ii σv s).bind fun y s => (setAt s x y v).bind fun _ s => .ok (.nx σv) s) = .ok r S' := e1
    refine rd_then s ((cat_ok e1 s p).imp fun v Sa e2 m1 H1 u x1 s1 r1 => ?_)
    refine rd_then s1 ((cat_ok e2 s1 (p.ext x1)).imp fun x Sb e3 m2 H2 u2 x2 s2 r2 => ?_)
    refine rd_then s2 ((cat_ok e3 s2 ((p.ext x1).ext x2)).imp fun y Sc e4 m3 H3 u3 x3 s3 r3 => ?_)
    have r1 := (r1.ext x2).ext x3
    have r2 := r2.ext x3
    cases e5 : setAt Sc x y v with
    | bad => rw [e5] at e4; cases e4
    | exc z s => exact absurd e5 (setAt_noX _ _ _ _ _ _)
    | ok z Sd =>
      rw [e5] at e4
      cases e4
      have dic : ∀ k, x = .ref k → setD Sc k y v = .ok z S' → rSetL u2 u3 u H3 (fun H' => D.nx σ H') ∨ rSetX X.K u2 u3 u H3 (fun H' => D.nx σ H') := fun k ex e6 => by
        subst ex
        cases r2 with
        | ref hk =>
          rename_i a
          unfold setD at e6
          split at e6
          · rename_i t kvs d es ed
            split at e6
            · rename_i hc
              cases e6
              obtain ⟨xs, ob, h1, h2, h3⟩ := s3.h.obj k _ a es hk
              obtain ⟨o', xs', p1, p2, p3, p4⟩ := put_rd h1 h2 h3 r3 ed hc.1 hc.2 r1
              have ha := List.mem_of_getElem? hk
              have xx := Ext.write (H := H3) (o := o') ha
              exact .inr ⟨a, _, rfl, xput_of p1 p2, p m3 _ σ (((x1.trans x2).trans x3).trans xx) ⟨s3.h.writeO hk ⟨xs', o', upd_same, p3, p4.ext xx⟩, s3.e.ext xx⟩⟩
            · cases e6
          · cases e6
      cases x with
      | ref k =>
        cases y with
        | int j =>
          have e5 : (match kid Sc k with
            | some xs => match natIx xs.length j with
              | some n => Out.ok () (Sc.set k (.lst (xs.set n v)))
              | none => .bad
            | none => setD Sc k (.int j) v) = .ok z _ := e5
          cases ek : kid Sc k with
          | none =>
            rw [ek] at e5
            exact dic k rfl e5
          | some xs =>
            rw [ek] at e5
            dsimp only at e5
            cases en : natIx xs.length j with
            | none => rw [en] at e5; cases e5
            | some n =>
              rw [en] at e5
              cases e5
              cases r2 with
              | ref hk =>
                cases r3
                obtain ⟨ys, h1, h2⟩ := s3.h.list hk ek
                have ha := List.mem_of_getElem? hk
                refine .inl ⟨_, ys, j, n, rfl, rfl, h1, by rw [← h2.length, ← natIx_eq, en], ?_⟩
                have xx := Ext.write (H := H3) (o := HO.lst (ys.set n u)) ha
                exact p m3 _ σ (((x1.trans x2).trans x3).trans xx) ⟨s3.h.write hk (h2.set r1 n), s3.e.ext xx⟩
        | tup ks => exact dic k rfl e5
        | _ => cases e5
      | _ => cases e5
/-- i op= j, of ints -/
def rAug (o : Bop) : TIp := fun x y H Q => ∃ a b c, x = .int a ∧ y = .int b ∧ arith o a b = some c ∧ Q (.int c) H
def augB : Bop → Bool
  | .pow => false
  | _ => true
theorem ip_aug {o : Bop} (h : augB o = true) : PIp X (bopOp o) (rAug o) := by
  rintro pins s σ H x y v u Q I rx ry ⟨a, b, c, rfl, rfl, e, q⟩
  cases o with
  | add =>
    cases e
    exact iop_add pins s σ H _ _ v u Q I rx ry ⟨a, b, rfl, rfl, q⟩
  | sub =>
    cases e
    exact iop_sub pins s σ H _ _ v u Q I rx ry ⟨a, b, rfl, rfl, q⟩
  | mul =>
    have e : (if (small a || small b) = true then some (a * b) else none) = some c := e
    split at e
    · rename_i hs
      cases e
      refine iop_mul pins s σ H _ _ v u Q I rx ry ⟨a, b, rfl, rfl, ?_, q⟩
      unfold small at hs
      simp only [Bool.or_eq_true, decide_eq_true_eq] at hs
      exact hs
    · cases e
  | fdiv =>
    have e : (if 0 < b ∧ b < 2 ^ 64 then some (a / b) else none) = some c := e
    split at e
    · rename_i hs
      cases e
      refine iop_fdivW pins s σ H _ _ v u Q I rx ry ⟨a, b, rfl, rfl, ?_, q⟩
      exact ⟨hs.1, log2_64 hs.1 hs.2⟩
    · cases e
  | mod =>
    have e : (if 0 < b then some (a % b) else none) = some c := e
    split at e
    · rename_i hs
      cases e
      exact iop_mod pins s σ H _ _ v u Q I rx ry ⟨a, b, rfl, rfl, hs, q⟩
    · cases e
  | pow => cases h
theorem s1_aug {i : Nat} {x : Str} {e : Expr} {ie : Ex} {op : Operator} {o : Bop} {p2 pos : Pos} (hN : X.N.Nodup) (hi : X.N[i]? = some x) (hx : Loc X.env.scope x) (hf : X.fn x = true ∨ X.env.scope.names.lookup x = some .local) (ho : op = bopOp o) (hb : augB o = true) (he : SE X w cl e ie) :
    S1 X w cl (.AugAssign (.Name x p2) op e pos) (.aug i o ie) := by
  subst ho
  refine PS.imp (ps_aug hN hi hx he (ip_aug hb) hf) fun D σ H ⟨m, σv, S, r, S', s, e1, p⟩ => ?_
  have e1 : (match σv[i]? with
    | some (some x) => cat σv ((ev cl ie σv S).bind fun y s => match x, y with
      | .int _, .int _ => (binV o x y s).bind fun z s => .ok (.nx (σv.set i (some z))) s
      | _, _ => .bad)
    | _ => .bad) = .ok r S' := e1
  split at e1
  · rename_i x hx
    obtain ⟨v, hv, rv⟩ := s.e.get i x hx
    refine ⟨v, hv, rd_then s ((cat_ok e1 s p).imp fun y Sa e2 m1 H1 u x1 s1 r1 => ?_)⟩
    cases x with
    | int a =>
      cases y with
      | int b =>
        have e2 : cat σv ((lift ((arith o a b).map VV.int) Sa).bind fun z s => .ok (.nx (σv.set i (some z))) s) = .ok r S' := e2
        obtain ⟨z, hz, e3⟩ := cat_eq e2
        obtain ⟨c, hc, rfl⟩ := Option.map_eq_some_iff.mp hz
        cases e3
        cases rv
        cases r1
        exact ⟨a, b, c, rfl, rfl, hc, p m1 H1 _ x1 ⟨s1.h, s1.e.set (.int c) i⟩⟩
      | _ => cases e2
    | _ => cases y <;> cases e2
  · cases e1
theorem s1_expr {e : Expr} {ir : Ex} {pos : Pos} (he : SE X w cl e ir) (hs : swapsWith e none pos.line X.env = pure false) : S1 X w cl (.Expr e pos) (.expr ir) :=
  PS.imp (ps_expr he hs) fun D σ H ⟨m, σv, S, r, S', s, e1, p⟩ => by
    have e1 : cat σv ((ev cl ir σv S).bind fun _ s => .ok (.nx σv) s) = .ok r S' := e1
    refine rd_then s ((cat_ok e1 s p).imp fun v Sa e2 m1 H1 u x1 s1 r1 => ?_)
    cases e2
    exact p m1 H1 σ x1 s1
theorem s1_ret {e : Expr} {ir : Ex} {pos : Pos} (he : SE X w cl e ir) : S1 X w cl (.Return (some e) pos) (.ret ir) :=
  PS.imp (ps_ret he) fun D σ H ⟨m, σv, S, r, S', s, e1, p⟩ => by
    have e1 : cat σv ((ev cl ir σv S).bind fun v s => .ok (.rt v) s) = .ok r S' := e1
    refine rd_then s ((cat_ok e1 s p).imp fun v Sa e2 m1 H1 u x1 s1 r1 => ?_)
    cases e2
    exact p m1 H1 u x1 s1.h r1
theorem s1_retN {pos : Pos} : S1 X w cl (.Return none pos) (.ret (.lit .non)) :=
  PS.imp ps_retN fun D σ H ⟨m, σv, S, r, S', s, e1, p⟩ => by
    cases e1
    exact p m H .non Ext.refl s.h .non
theorem s1_pass {pos : Pos} : S1 X w cl (.Pass pos) .pss := PS.imp ps_pass fun D σ H ⟨m, σv, S, r, S', s, e1, p⟩ => by
  cases e1
  exact p m H σ Ext.refl s
theorem s1_brk {pos : Pos} : S1 X w cl (.Break pos) .brk := PS.imp ps_break fun D σ H ⟨m, σv, S, r, S', s, e1, p⟩ => by
  cases e1
  exact p m H σ Ext.refl s
theorem s1_cnt {pos : Pos} : S1 X w cl (.Continue pos) .cnt := PS.imp ps_continue fun D σ H ⟨m, σv, S, r, S', s, e1, p⟩ => by
  cases e1
  exact p m H σ Ext.refl s
theorem s1_never {st : Stmt} : S1 X w cl st .never := PS.imp ps_never fun D σ H ⟨m, σv, S, r, S', s, e1, p⟩ => by
  cases e1
theorem s1_if {c : Expr} {a b : List Stmt} {ic : Ex} {ia ib : List Stm} {pos : Pos} (hc : SB X w cl c ic) (ha : SS X w cl a ia) (hb : SS X w cl b ib) : S1 X w cl (.If c a b pos) (.ife ic ia ib) :=
  PS.imp (ps_if hc.t ha hb) fun D σ H ⟨m, σv, S, r, S', s, e1, p⟩ => by
    have e1 : cat σv ((ev cl ic σv S).bind fun x s => (lift (trV s x) s).bind fun t s => if t then exs cl ia σv s else exs cl ib σv s) = .ok r S' := e1
    refine rd_thenT s ?_
    show Res X.K w m H σ ((ev cl ic σv S).bind fun v s => lift (trV s v) s) _
    refine Res.of_bind ((cat_ok e1 s p).imp fun v Sa e2 => ?_)
    obtain ⟨t, ht, e3⟩ := cat_eq e2
    rw [ht]
    refine Res.mk fun m1 H1 x1 s1 => ?_
    have nox : ∀ {o : Out Fl}, cat σv o = .ok r S' → o = .ok r S' ∨ ∃ v s, o = .exc v s ∧ r = .xc v σv ∧ S' = s := fun {o} e => by
      cases o with
      | ok x s => exact .inl e
      | bad => cases e
      | exc v s => cases e; exact .inr ⟨v, _, rfl, rfl, rfl⟩
    cases t with
    | true =>
      rw [if_pos rfl]
      rw [if_pos rfl] at e3
      exact ⟨m1, σv, Sa, r, S', s1, cat_in (exs_noX _ _ _) e3, p.ext x1⟩
    | false =>
      rw [if_neg (by decide)]
      rw [if_neg (by decide)] at e3
      exact ⟨m1, σv, Sa, r, S', s1, cat_in (exs_noX _ _ _) e3, p.ext x1⟩
theorem s1_whl {c : Expr} {b : List Stmt} {ic : Ex} {ib : List Stm} {pos : Pos} (hp : PassesOwn (model X.prog X.w) X.A X.env X.xe) (hc : SB X w cl c ic) (hb : SS X w cl b ib) : S1 X w cl (.While c b [] pos) (.whl ic ib) :=
  PS.imp (ps_while hp hc.t hb) fun D σ H ⟨m, σv, S, r, S', s, e1, p⟩ => by
    have e1 : whileL (tst cl ic) (fun σ s => exs cl ib σ s) wfuel σv S = .ok r S' := e1
    refine ⟨fun n σ1 H1 => ∃ m1 σ1v S1, Ext m H m1 H1 ∧ Sit X.K m1 σ1v S1 σ1 H1 ∧ whileL (tst cl ic) (fun σ s => exs cl ib σ s) n σ1v S1 = .ok r S', ⟨wfuel, m, σv, S, Ext.refl, s, e1⟩, ?_⟩
    rintro n σ1 H1 ⟨m1, σ1v, S1, x1, s1, e2⟩
    cases n with
    | zero => cases e2
    | succ n =>
      have e2 : cat σ1v ((tst cl ic σ1v S1).bind fun b s => if b then ((fun σ s => exs cl ib σ s) σ1v s).bind fun f s => (match f with
        | .nx σ => whileL (tst cl ic) (fun σ s => exs cl ib σ s) n σ s
        | .ct σ => whileL (tst cl ic) (fun σ s => exs cl ib σ s) n σ s
        | .bk σ => .ok (.nx σ) s
        | .rt v => .ok (.rt v) s
        | .xc v σ => .ok (.xc v σ) s) else .ok (.nx σ1v) s) = .ok r S' := e2
      refine rd_thenT s1 ((cat_ok e2 s1 (p.ext x1)).imp fun t S2 e3 m2 H2 x2 s2 => ?_)
      cases t with
      | true =>
        rw [if_pos rfl]
        rw [if_pos rfl] at e3
        refine ⟨fun σ' H' => ∃ m1 σ1v S1, Ext m H m1 H' ∧ Sit X.K m1 σ1v S1 σ' H' ∧ whileL (tst cl ic) (fun σ s => exs cl ib σ s) n σ1v S1 = .ok r S', fun σ' H' h => ⟨n, Nat.lt_succ_self n, h⟩, ?_⟩
        have e4 := cat_in (fun v s => bind_noX (exs_noX ib σ1v S2) (fun f s v s' h => by
          cases f with
          | nx σ => exact whileL_noX _ _ _ _ _ _ _ h
          | ct σ => exact whileL_noX _ _ _ _ _ _ _ h
          | _ => cases h) v s) e3
        obtain ⟨f, S3, e5, e6⟩ := Out.bind_eq_ok e4
        refine ⟨m2, σ1v, S2, f, S3, s2, e5, ?_⟩
        cases f with
        | nx σ' => exact fun m3 H3 σ3 x3 s3 => ⟨m3, σ', S3, (x1.trans x2).trans x3, s3, e6⟩
        | ct σ' => exact fun m3 H3 σ3 x3 s3 => ⟨m3, σ', S3, (x1.trans x2).trans x3, s3, e6⟩
        | bk σ' => cases e6; exact (p.ext x1).ext x2
        | rt v => cases e6; exact (p.ext x1).ext x2
        | xc v σ' => cases e6; exact (p.ext x1).ext x2
      | false =>
        rw [if_neg (by decide)]
        rw [if_neg (by decide)] at e3
        cases e3
        exact p m2 H2 σ1 (x1.trans x2) s2
theorem forL_noX {g : List (Nat × List VV)} {step : VV → Sv → Hs → Out Fl} (hn : ∀ x σ s v s', step x σ s ≠ .exc v s') : ∀ (xs : List VV) (σ : Sv) (s : Hs) (v : VV) (s' : Hs), forL g step xs σ s ≠ .exc v s'
  | [], σ, s, v, s', h => by
    unfold forL at h
    split at h <;> cases h
  | x :: xs, σ, s, v, s', h => by
    unfold forL at h
    split at h
    · refine bind_noX (hn x σ s) (fun f s v s' h => ?_) v s' h
      cases f with
      | nx σ => exact forL_noX hn xs _ _ _ _ h
      | ct σ => exact forL_noX hn xs _ _ _ _ h
      | _ => cases h
    · cases h
theorem s1_for {tg iter : Expr} {b : List Stmt} {t : Tg} {it : It} {ib : List Stm} {pos : Pos} (hp : PassesOwn (model X.prog X.w) X.A X.env X.xe) (hc : X.calm = true) (hi : SI X w cl tg iter it) (hg : PG X tg (rdG X.K t)) (hs : notSet iter = true) (hb : SS X w cl b ib) :
    S1 X w cl (.For tg iter b [] pos) (.forr t it ib) :=
  PS.imp (ps_for hp hc hi hg hb (fun x => notSet_ok hs _ x)) fun D σ H ⟨m, σv, S, r, S', s, e1, p⟩ => by
    obtain ⟨step, hstep⟩ : ∃ step : VV → Sv → Hs → Out Fl, step = fun x σ s => match asg t x σ with
      | some σ => exs cl ib σ s
      | none => .bad := ⟨_, rfl⟩
    have e1 : cat σv ((evIt cl it σv S).bind fun r s => forL r.2 step r.1 σv s) = .ok r S' := by rw [hstep]; exact e1
    refine ⟨m, σv, S, s, (cat_ok e1 s p).imp fun src S1 e2 m1 H1 J x1 h1 wk => ?_⟩
    have e2 := cat_in (fun v s => forL_noX (fun x σ s v s' h => by
      rw [hstep] at h
      dsimp only at h
      split at h
      · exact exs_noX _ _ _ _ _ h
      · cases h) _ _ _ v s) e2
    obtain ⟨Wp, hWp⟩ : ∃ Wp : Nat → L2.St → Hp → Prop, Wp = fun i σ' H' => i ≤ src.1.length ∧ ∃ M σ2v S2, Ext m H M H' ∧ Sit X.K M σ2v S2 σ' H' ∧ Wk X.K M H' src J ∧ forL src.2 step (src.1.drop i) σ2v S2 = .ok r S' := ⟨_, rfl⟩
    refine ⟨fun i n σ' H' => n = src.1.length - i ∧ Wp i σ' H', ⟨src.1.length, by simp, ?_⟩, ?_⟩
    · rw [hWp]
      exact ⟨Nat.zero_le _, m1, σv, S1, x1, s.ext x1 h1, wk, e2⟩
    rintro i n σ' H' ⟨rfl, hw⟩
    rw [hWp] at hw
    obtain ⟨hl, M, σ2v, S2, x2, s2, wk2, e3⟩ := hw
    by_cases hlt : i < src.1.length
    · right
      rw [List.drop_eq_getElem_cons hlt] at e3
      unfold forL at e3
      split at e3
      · rename_i hgk
        obtain ⟨go1, go2⟩ := wk2.go s2.h hgk (List.getElem?_eq_getElem hlt)
        refine ⟨go1, Wp (i + 1), fun σ2 H2 h => ⟨src.1.length - (i + 1), by omega, rfl, h⟩, fun v H3 y => ?_⟩
        obtain ⟨x3, h3, r3⟩ := go2 v H3 y
        obtain ⟨f, S3, e4, e5⟩ := Out.bind_eq_ok e3
        rw [hstep] at e4
        dsimp only at e4
        split at e4
        · rename_i σ3v ea
          refine ⟨M, _, σ2v, σ3v, r3, s2.e.ext x3, ea, fun σ4 s4 _ => ⟨M, σ3v, S2, f, S3, ⟨h3, s4⟩, e4, ?_⟩⟩
          have again : ∀ (σ5v : Sv), forL src.2 step (src.1.drop (i + 1)) σ5v S3 = .ok r S' → ∀ m' H' σ', Ext M H3 m' H' → Sit X.K m' σ5v S3 σ' H' → Wp (i + 1) σ' H' := fun σ5v e6 m' H' σ' x' s' => by
            rw [hWp]
            exact ⟨hlt, m', σ5v, S3, (x2.trans x3).trans x', s', (wk2.ext x3).ext x', e6⟩
          cases f with
          | nx σ5v => exact again σ5v e5
          | ct σ5v => exact again σ5v e5
          | bk σ5v => cases e5; exact (p.ext x2).ext x3
          | rt v => cases e5; exact (p.ext x2).ext x3
          | xc v σ5v => cases e5; exact (p.ext x2).ext x3
        · cases e4
      · cases e3
    · left
      have hle : src.1.length ≤ i := by omega
      rw [List.drop_eq_nil_of_le hle] at e3
      unfold forL at e3
      split at e3
      · rename_i hgk
        cases e3
        exact ⟨wk2.stop s2.h hgk hle, p M H' σ' x2 s2⟩
      · cases e3
/-! ### errors of ours -/
/-- how an error of ours lies in the air -/
def rxT (K : PySem.W.Frag) : Rx := fun m H v cls d => ∃ (c : String) (x : VV) (dd : Ad) (y : V), v = .exc c x ∧ XcG K c ∧ cls = .ref (xA K c) ∧ d = some dd ∧ H dd = some (.xd [(xF c, y)]) ∧ m.out dd ∧ R K m H x y
theorem SimE.setN {K : PySem.W.Frag} {m : Mp} {H : Hp} {σv : Sv} {σ : L2.St} (h : SimE K m H σv σ) (i : Nat) : SimE K m H (σv.set i none) (σ.set i none) := by
  refine ⟨by simp [h.len], fun j x e => ?_⟩
  by_cases hj : j = i
  · subst hj
    by_cases hl : j < σv.length
    · rw [List.getElem?_set_self hl] at e; cases e
    · rw [List.getElem?_eq_none (by simpa using Nat.le_of_not_lt hl)] at e; cases e
  · rw [List.getElem?_set_ne (Ne.symm hj)] at e
    obtain ⟨v, h1, h2⟩ := h.get j x e
    exact ⟨v, by rw [List.getElem?_set_ne (Ne.symm hj)]; exact h1, h2⟩
theorem s1_rai {c : String} {e : Expr} {ie : Ex} {p pos pos2 : Pos} (hc : X.calm = true) (tk : Takes X w.W) (M : MkOk X c) (hrx : w.rx = rxT X.K) (hx : Passes (L2.CX X.prog X.w) X (fun _ _ _ => False)) (hg : Gl X (Str.ofString c)) (hd : (Str.ofString c == ("__debug__" : Str)) = false)
    (hn : notStar e = true) (he : SE X w cl e ie) : S1 X w cl (.Raise (some (.Call (.Name (Str.ofString c) p) [e] [] pos)) none pos2) (.rai c ie) :=
  PS.imp (ps_raiseX hc tk M hx hg hd (pa_cons he pa_nil (star_cons hn)) (star_cons hn)) fun D σ H ⟨m, σv, S, r, S', s, e1, p⟩ => by
    have e1 : cat σv ((ev cl ie σv S).bind fun v s => .exc (.exc c v) s) = .ok r S' := e1
    refine rd_then s ((cat_ok e1 s p).imp fun v Sa e2 m1 H1 u x1 s1 r1 => ?_)
    cases e2
    refine ⟨u, rfl, fun d hd => ?_⟩
    have x2 : Ext m1 H1 m1 (upd H1 d (.xd [(xF c, u)])) := Ext.new hd
    refine p m1 _ σ _ _ (x1.trans x2) ⟨s1.h.new hd, s1.e.ext x2⟩ ?_
    rw [hrx]
    exact ⟨c, v, d, u, rfl, M.G, rfl, rfl, upd_same, out_of_none s1.h hd, r1.ext x2⟩
theorem s1_tryk {g n : Str} {cs : List String} {i j : Nat} {body : List Stmt} {ib : List Stm} {t : Expr} {p1 p2 p3 pos pos' : Pos} (hs : X.stack = X.env :: X.outer) (hf : X.env.frame = some X.env.locals) (hex : X.ex = []) (hN : X.N.Nodup) (hi : X.N[i]? = some n) (hj : X.N[j]? = some g)
    (hln : X.env.kindOf n = some .local) (hlg : X.env.kindOf g = some .local) (dn : (n == ("__debug__" : Str)) = false) (cn : (n == ("__classdict__" : Str)) = false) (hij : i ≠ j) (ht : TestIs X t (cs.map fun c => .ref (xA X.K c))) (hG : ∀ c ∈ cs, XcG X.K c) (tk : Takes X w.W) (hrx : w.rx = rxT X.K)
    (hb : ∀ (W : WX) (pn : List (Addr × Obj)) (xe : Value → Shared → Prop), Takes (X.tr pn xe) W → PassesOwn (model X.prog X.w) X.A X.env xe → SS (X.tr pn xe) ⟨W, w.rx⟩ cl body ib) :
    S1 X w cl (.Try body [.ExceptHandler (some t) (some n) [.Assign [.Name g p1] (.Name n p2) p3] pos'] [] [] pos) (.tryk ib cs i j) :=
  PS.imp (ps_keep (tb := fun W => rdS X.K ⟨W, w.rx⟩ (exs cl ib)) hs hf hex hN hi hj hln hlg dn cn hij ht tk hb) fun D σ H ⟨m, σv, S, r, S', s, e1, p⟩ => by
    obtain ⟨f, S2, e2, e3⟩ := Out.bind_eq_ok (show (noX (exs cl ib σv S)).bind (fun f s => tryF cs i j f s) = .ok r S' from e1)
    have e2 := noX_eq e2
    refine ⟨m, σv, S, f, S2, s, e2, ?_⟩
    cases f with
    | nx σ1 => cases e3; exact p
    | ct σ1 => cases e3; exact p
    | bk σ1 => cases e3; exact p
    | rt v => cases e3; exact p
    | xc v σ1 =>
      intro m1 H1 σ2 cls d x1 s1 rx
      rw [hrx] at rx
      have rx0 := rx
      obtain ⟨c, x, dd, y, rfl, G, rfl, rfl, hd, hm, rxy⟩ := rx
      refine ⟨_, G.exmAny hG, fun hb => ?_, fun hb => ?_⟩
      · have e3 : (if cs.contains c = true then Out.ok (Fl.nx ((σ1.set j (some (.exc c x))).set i none)) S2 else .ok (.xc (.exc c x) σ1) S2) = .ok r S' := e3
        rw [if_pos hb] at e3
        cases e3
        refine ⟨_, dd, rfl, rfl, fun a na => ?_⟩
        have x2 : Ext m1 H1 m1 (upd H1 a (XO a (xA X.K c) dd)) := Ext.new na
        have ed : upd H1 a (XO a (xA X.K c) dd) dd = some (.xd [(xF c, y)]) := by rw [upd_ne (ne_of_none hd na)]; exact hd
        have rr : R X.K m1 (upd H1 a (XO a (xA X.K c) dd)) (.exc c x) (.ref a) := .exc G upd_same (out_of_none s1.h na) ed hm (rxy.ext x2)
        have eq : ((σ2.set i (some (V.ref a))).set j (some (V.ref a))).set i none = (σ2.set j (some (V.ref a))).set i none := by
          rw [List.set_comm (some (V.ref a)) none (Ne.symm hij), List.set_set, List.set_comm _ _ hij]
        rw [eq]
        exact p m1 _ _ (x1.trans x2) ⟨s1.h.new na, ((s1.e.ext x2).set rr j).setN i⟩
      · have e3 : (if cs.contains c = true then Out.ok (Fl.nx ((σ1.set j (some (.exc c x))).set i none)) S2 else .ok (.xc (.exc c x) σ1) S2) = .ok r S' := e3
        rw [if_neg (by rw [hb]; exact Bool.false_ne_true)] at e3
        cases e3
        refine p m1 H1 σ2 _ _ x1 s1 ?_
        rw [hrx]
        exact rx0
end
end Tw
set_option Elab.async false
set_option linter.all false
set_option autoImplicit false
set_option maxRecDepth 100000
/-! TwComp: from the program's tree to the interpreter's; it is right. -/
namespace Tw
open PySem PySem.Spec PyProof.Rows L2
/-- a def, as calls see it -/
structure Sg where
  nm : Str
  id : String
  ps : List Str
  keep : Bool
  deps : List Nat
/-- what the names of a block are -/
structure Cn where
  N : List Str
  sc : Scope
  own : Str → Bool
  fns : List Sg
  muts : List (Str × Nat)
  ret : Nat
  xs : List String
  dfn : Bool
def biTab : List (Str × Nat × Bi) := [("len", 1, .len), ("abs", 1, .abs), ("sum", 1, .sum), ("all", 1, .all), ("any", 1, .any), ("max", 1, .max), ("min", 1, .min), ("max", 2, .max2), ("min", 2, .min2), ("sorted", 1, .sorted), ("int", 1, .int),
  ("repr", 1, .repr), ("tuple", 1, .tuple), ("list", 1, .list)]
def biNm : List Str := ["len", "abs", "sum", "all", "any", "max", "min", "sorted", "int", "repr", "tuple", "list", "isinstance", "range", "enumerate", "zip", "bool", "str", "ValueError", "LookupError", "RuntimeError", "OverflowError", "ArithmeticError", "KeyError", "IndexError", "NotImplementedError"]
theorem bi_tab : ∀ t ∈ biTab, bootBuiltins t.1 = some (biVal t.2.2) ∧ biPlain t.2.2 = true ∧ t.1 ≠ "__name__" ∧ (t.1 == ("__debug__" : Str)) = false ∧ t.1 ∈ biNm := by
  have : biTab.all (fun t => decide (bootBuiltins t.1 = some (biVal t.2.2)) && biPlain t.2.2 && decide (t.1 ≠ "__name__") && !(t.1 == ("__debug__" : Str)) && decide (t.1 ∈ biNm)) = true := by decide +kernel
  intro t ht
  have := List.all_eq_true.mp this t ht
  simp only [Bool.and_eq_true, decide_eq_true_eq, Bool.not_eq_true'] at this
  obtain ⟨⟨⟨⟨a, b⟩, c⟩, d⟩, e⟩ := this
  exact ⟨a, b, c, d, e⟩
/-- a def's own block, where errors are raised and caught -/
structure DfOk (X : Cx) (w : Wish) (xs : List String) : Prop where
  hs : X.stack = X.env :: X.outer
  hf : X.env.frame = some X.env.locals
  hex : X.ex = []
  rx : w.rx = rxT X.K
  mks : ∀ c ∈ xs, MkOk X c
structure XOk (X : Cx) (w : Wish) (cl : Cl) (Γ : Cn) : Prop where
  N : X.N = Γ.N
  nd : X.N.Nodup
  sc : X.env.scope = Γ.sc
  kind : X.env.scope.kind = .function
  fn : ∀ x, Γ.own x = true → X.fn x = true
  room : XRoom X
  tk : Takes X w.W
  fns : ∀ g ∈ Γ.fns, CallOk X w.rx cl g.nm g.id g.ps
  mg : ∀ x ∈ biNm, X.mg x = none
  df : Γ.dfn = true → DfOk X w Γ.xs
abbrev Rec := Cn → Nat → Expr → Option Ex
def RecOk (rec : Rec) : Prop := ∀ (Γ : Cn) (X : Cx) (w : Wish) (cl : Cl) (d : Nat) (e : Expr) (ir : Ex), XOk X w cl Γ → rec Γ d e = some ir → SB X w cl e ir
def cEs (f : Expr → Option Ex) : List Expr → Option (List Ex)
  | [] => some []
  | e :: es => if notStar e then (match f e, cEs f es with
    | some i, some is => some (i :: is)
    | _, _ => none) else none
/-- each argument to its own depth -/
def cArgs (f : Nat → Expr → Option Ex) : List Nat → List Expr → Option (List Ex)
  | _, [] => some []
  | ds, e :: es => if notStar e then (match f (ds.headD 0) e, cArgs f ds.tail es with
    | some i, some is => some (i :: is)
    | _, _ => none) else none
def cKs (f : Expr → Option Ex) : List Keyword → Option (List Ex)
  | [] => some []
  | ⟨nm, v, _⟩ :: ks => if nm.isSome then (match f v, cKs f ks with
    | some i, some is => some (i :: is)
    | _, _ => none) else none
section
variable {X : Cx} {w : Wish} {cl : Cl}
theorem cEs_ok {f : Expr → Option Ex} (h : ∀ e ir, f e = some ir → SB X w cl e ir) : ∀ {es : List Expr} {irs : List Ex}, cEs f es = some irs → SA X w cl es irs ∧ (∀ e ∈ es, notStar e = true) ∧ irs.length = es.length ∧ All2 (SB X w cl) es irs
  | [], irs, e => by cases e; exact ⟨sa_nil, by simp, rfl, .nil⟩
  | a :: es, irs, e => by
    unfold cEs at e
    split at e
    · rename_i hs
      split at e
      · rename_i i is h1 h2
        cases e
        obtain ⟨t1, t2, t3, t4⟩ := cEs_ok h h2
        refine ⟨sa_cons hs (h _ _ h1).v t1, fun b hb => ?_, by rw [List.length_cons, List.length_cons, t3], .cons (h _ _ h1) t4⟩
        rcases List.mem_cons.mp hb with rfl | hb
        · exact hs
        · exact t2 b hb
      · cases e
    · cases e
theorem cArgs_ok {f : Nat → Expr → Option Ex} (h : ∀ d e ir, f d e = some ir → SB X w cl e ir) : ∀ {ds : List Nat} {es : List Expr} {irs : List Ex}, cArgs f ds es = some irs → SA X w cl es irs ∧ (∀ e ∈ es, notStar e = true) ∧ irs.length = es.length
  | _, [], irs, e => by
    unfold cArgs at e
    cases e
    exact ⟨sa_nil, by simp, rfl⟩
  | ds, a :: es, irs, e => by
    unfold cArgs at e
    split at e
    · rename_i hs
      split at e
      · rename_i i is h1 h2
        cases e
        obtain ⟨t1, t2, t3⟩ := cArgs_ok h h2
        refine ⟨sa_cons hs (h _ _ _ h1).v t1, fun b hb => ?_, by rw [List.length_cons, List.length_cons, t3]⟩
        rcases List.mem_cons.mp hb with rfl | hb
        · exact hs
        · exact t2 b hb
      · cases e
    · cases e
theorem cKs_ok {f : Expr → Option Ex} (h : ∀ e ir, f e = some ir → SB X w cl e ir) : ∀ {ks : List Keyword} {irs : List Ex}, cKs f ks = some irs → SK X w cl ks irs ∧ (∀ k ∈ ks, k.arg.isSome = true) ∧ irs.length = ks.length
  | [], irs, e => by cases e; exact ⟨sk_nil, by simp, rfl⟩
  | ⟨nm, v, kp⟩ :: es, irs, e => by
    unfold cKs at e
    split at e
    · rename_i hs
      split at e
      · rename_i i is h1 h2
        cases e
        obtain ⟨t1, t2, t3⟩ := cKs_ok h h2
        refine ⟨sk_cons (h _ _ h1).v t1, fun b hb => ?_, by rw [List.length_cons, List.length_cons, t3]⟩
        rcases List.mem_cons.mp hb with rfl | hb
        · exact hs
        · exact t2 b hb
      · cases e
    · cases e
end
def ixIn (x : Str) : List Str → Option Nat
  | [] => none
  | y :: ys => if x == y then some 0 else (ixIn x ys).map (· + 1)
def slot (Γ : Cn) (x : Str) : Option Nat := match ixIn x Γ.N with
  | some i => if Γ.N[i]? = some x then some i else none
  | none => none
theorem slot_ok {X : Cx} {w : Wish} {cl : Cl} {Γ : Cn} (ok : XOk X w cl Γ) {x : Str} {i : Nat} (h : slot Γ x = some i) : X.N[i]? = some x := by
  unfold slot at h
  split at h
  · split at h
    · cases h
      rw [ok.N]
      assumption
    · cases h
  · cases h
def visB (Γ : Cn) (x : Str) : Bool := match Γ.sc.names.lookup x with
  | some .local => true
  | some .cell => true
  | some .free => true
  | _ => false
theorem vis_ok {X : Cx} {w : Wish} {cl : Cl} {Γ : Cn} (ok : XOk X w cl Γ) {x : Str} (h : visB Γ x = true) : Vis X.env.scope x := by
  unfold Vis
  rw [ok.sc]
  unfold visB at h
  split at h
  · exact .inl (by assumption)
  · exact .inr (.inl (by assumption))
  · exact .inr (.inr (by assumption))
  · cases h
def glB (Γ : Cn) (x : Str) : Bool := Γ.sc.names.lookup x == some .globalImplicit && !(x == ("__debug__" : Str))
theorem gl_ok {X : Cx} {w : Wish} {cl : Cl} {Γ : Cn} (ok : XOk X w cl Γ) {x : Str} (h : glB Γ x = true) : Gl X x ∧ (x == ("__debug__" : Str)) = false := by
  unfold glB at h
  simp only [Bool.and_eq_true, Bool.not_eq_true', beq_iff_eq] at h
  refine ⟨?_, h.2⟩
  show X.env.scope.names.lookup x = _
  rw [ok.sc]
  exact h.1
def locB (Γ : Cn) (x : Str) : Bool := match Γ.sc.names.lookup x with
  | some .local => true
  | some .cell => Γ.own x
  | _ => false
theorem loc_ok {X : Cx} {w : Wish} {cl : Cl} {Γ : Cn} (ok : XOk X w cl Γ) {x : Str} (h : locB Γ x = true) : L2.Loc X.env.scope x ∧ (X.fn x = true ∨ X.env.scope.names.lookup x = some .local) := by
  unfold L2.Loc
  rw [ok.sc]
  unfold locB at h
  split at h
  · exact ⟨.inl (by assumption), .inr (by assumption)⟩
  · exact ⟨.inr (by assumption), .inl (ok.fn x h)⟩
  · cases h
mutual
/-- targets -/
def cTg (Γ : Cn) : Nat → Expr → Option Tg
  | n + 1, .Name x _ => if locB Γ x then (slot Γ x).map .var else none
  | n + 1, .Tuple es _ _ => (cTgs Γ n es).map .tup
  | _, _ => none
def cTgs (Γ : Cn) : Nat → List Expr → Option (List Tg)
  | _, [] => some []
  | n + 1, e :: es => if notStar e then (match cTg Γ n e, cTgs Γ n es with
    | some t, some ts => some (t :: ts)
    | _, _ => none) else none
  | 0, _ :: _ => none
end
theorem cTg_ok {X : Cx} {w : Wish} {cl : Cl} {Γ : Cn} (ok : XOk X w cl Γ) : ∀ n : Nat, (∀ e t, cTg Γ n e = some t → PG X e (rdG X.K t)) ∧ (∀ es ts, cTgs Γ n es = some ts → PGs X es (rdGs X.K ts) ∧ (∀ e ∈ es, notStar e = true) ∧ es.length = ts.length)
  | 0 => by
    refine ⟨fun e t h => ?_, fun es ts h => ?_⟩
    · cases e <;> cases h
    · cases es with
      | nil => cases h; exact ⟨pgs_nil', by simp, rfl⟩
      | cons e es => cases h
  | n + 1 => by
    obtain ⟨ih1, ih2⟩ := cTg_ok ok n
    refine ⟨fun e t h => ?_, fun es ts h => ?_⟩
    · cases e with
      | Name x p =>
        have h : (if locB Γ x then (slot Γ x).map Tg.var else none) = some t := h
        split at h
        · rename_i hl
          obtain ⟨i, hi, rfl⟩ := Option.map_eq_some_iff.mp h
          obtain ⟨l1, l2⟩ := loc_ok ok hl
          exact pg_var ok.nd (slot_ok ok hi) l1 l2
        · cases h
      | Tuple es k p =>
        have h : (cTgs Γ n es).map Tg.tup = some t := h
        obtain ⟨ts, hts, rfl⟩ := Option.map_eq_some_iff.mp h
        obtain ⟨a, b, c⟩ := ih2 es ts hts
        exact pg_seq ok.room.calm b a c
      | _ => cases h
    · cases es with
      | nil => cases h; exact ⟨pgs_nil', by simp, rfl⟩
      | cons e es =>
        have h : (if notStar e then (match cTg Γ n e, cTgs Γ n es with
          | some t, some ts => some (t :: ts)
          | _, _ => none) else none) = some ts := h
        split at h
        · rename_i hs
          split at h
          · rename_i t ts h1 h2
            cases h
            obtain ⟨a, b, c⟩ := ih2 es ts h2
            refine ⟨pgs_cons' hs (ih1 e t h1) a, fun q hq => ?_, by rw [List.length_cons, List.length_cons, c]⟩
            rcases List.mem_cons.mp hq with rfl | hq
            · exact hs
            · exact b q hq
          · cases h
        · cases h
def Cn.inn (Γ : Cn) (scope : Scope) : Cn := { Γ with sc := relS scope Γ.sc, own := fun x => scope.names.lookup x == some .cell, dfn := false }
theorem XOk.inn {X : Cx} {w : Wish} {cl : Cl} {Γ : Cn} (ok : XOk X w cl Γ) {scope : Scope} (hk : scope.kind = .function) (s : Shared) (H : Hp) (C : Addr) (cell : List (Str × Addr)) (fp : List Addr) : XOk (X.blk s H scope (compEnvC scope cell C X.env) fp) w.shut cl (Γ.inn scope) where
  N := ok.N
  nd := ok.nd
  sc := by
    show relabel scope X.env = relS scope Γ.sc
    rw [← ok.sc]
    rfl
  kind := hk
  fn := fun x h => h
  room := ⟨ok.room.calm, ok.room.guards, ok.room.units⟩
  tk := fun u s' ⟨_, _, _, _, _, _, _, _, _, _, _, _, _, _, _, _, z⟩ => z
  fns := fun g hg => ⟨(ok.fns g hg).ex⟩
  mg := ok.mg
  df := fun h => Bool.noConfusion (show false = true from h)
end Tw
set_option Elab.async false
set_option linter.all false
set_option autoImplicit false
set_option maxRecDepth 100000
/-! TwComp2: expressions. -/
namespace Tw
open PySem PySem.Spec PyProof.Rows L2
def opB : Operator → Option Bop
  | .Add => some .add
  | .Sub => some .sub
  | .Mult => some .mul
  | .FloorDiv => some .fdiv
  | .Mod => some .mod
  | .Pow => some .pow
  | _ => none
theorem opB_ok {op : Operator} {o : Bop} (h : opB op = some o) : op = bopOp o := by
  cases op <;> cases h <;> rfl
def opC : CmpOp → Option Cop
  | .Eq => some .eq
  | .NotEq => some .ne
  | .Lt => some .lt
  | .LtE => some .le
  | .Gt => some .gt
  | .GtE => some .ge
  | .In => some .isin
  | .NotIn => some .notin
  | .Is => some .is_
  | .IsNot => some .isnot
theorem opC_ok {op : CmpOp} {o : Cop} (h : opC op = some o) : op = copOp o := by
  cases op <;> cases h <;> rfl
def cC : Const → Option Lit
  | .none => some .non
  | .bool b => some (.bl b)
  | .int i => some (.int i)
  | .str x => some (.str x)
  | _ => none
def deep (d : Nat) : Nat := if d ≤ 1 then 0 else d
def cOp (f : Expr → Option Ex) : Option Expr → Option Ex
  | none => some (.lit .non)
  | some e => match f e with
    | some (.lit .non) => none
    | o => o
def tyTab : List (Str × Ty) := [("int", .int), ("bool", .bool), ("str", .str), ("tuple", .tuple), ("list", .list)]
theorem ty_tab : ∀ t ∈ tyTab, tyPlain t.2 = true ∧ t.1 = Str.ofString (tyName t.2) ∧ t.1 ∈ biNm := by
  have : tyTab.all (fun t => tyPlain t.2 && decide (t.1 = Str.ofString (tyName t.2)) && decide (t.1 ∈ biNm)) = true := by decide +kernel
  intro t ht
  have := List.all_eq_true.mp this t ht
  simp only [Bool.and_eq_true, decide_eq_true_eq] at this
  exact ⟨this.1.1, this.1.2, this.2⟩
def look {α : Type} (x : Str) : List (Str × α) → Option (Str × α)
  | [] => none
  | p :: ps => if x = p.1 then some p else look x ps
theorem look_ok {α : Type} {x : Str} {p : Str × α} : ∀ {l : List (Str × α)}, look x l = some p → p ∈ l ∧ p.1 = x
  | [], h => by cases h
  | q :: l, h => by
    unfold look at h
    split at h
    · cases h
      exact ⟨List.mem_cons_self, by rename_i e; exact e.symm⟩
    · exact ⟨List.mem_cons_of_mem _ (look_ok h).1, (look_ok h).2⟩
def cTys (Γ : Cn) : List Expr → Option (List Ty)
  | [] => some []
  | .Name x _ :: es => if glB Γ x then (match look x tyTab, cTys Γ es with
    | some t, some ts => some (t.2 :: ts)
    | _, _ => none) else none
  | _ :: _ => none
def lookBi (x : Str) (n : Nat) : List (Str × Nat × Bi) → Option (Str × Nat × Bi)
  | [] => none
  | p :: ps => if x = p.1 ∧ n = p.2.1 then some p else lookBi x n ps
theorem lookBi_ok {x : Str} {n : Nat} {p : Str × Nat × Bi} : ∀ {l : List (Str × Nat × Bi)}, lookBi x n l = some p → p ∈ l ∧ p.1 = x
  | [], h => by cases h
  | q :: l, h => by
    unfold lookBi at h
    split at h
    · cases h
      exact ⟨List.mem_cons_self, by rename_i e; exact e.1.symm⟩
    · exact ⟨List.mem_cons_of_mem _ (lookBi_ok h).1, (lookBi_ok h).2⟩
def sgOf (x : Str) : List Sg → Option Sg
  | [] => none
  | g :: gs => if x = g.nm then some g else sgOf x gs
theorem sgOf_ok {x : Str} {g : Sg} : ∀ {l : List Sg}, sgOf x l = some g → g ∈ l ∧ g.nm = x
  | [], h => by cases h
  | q :: l, h => by
    unfold sgOf at h
    split at h
    · cases h
      exact ⟨List.mem_cons_self, by rename_i e; exact e.symm⟩
    · exact ⟨List.mem_cons_of_mem _ (sgOf_ok h).1, (sgOf_ok h).2⟩
/-- a call of a name -/
def cCall (rec : Rec) (Γ : Cn) (d : Nat) (f : Str) (es : List Expr) (kws : List Keyword) : Option Ex :=
  if glB Γ f then (match sgOf f Γ.fns with
    | some g => (match cArgs (rec Γ) g.deps es with
      | some is => if kws.isEmpty then (if permOf g.ps es.length [] = some (List.range es.length) then some (.call (g.keep || decide (0 < d)) g.id is) else none)
        else (match cKs (rec Γ 0) kws, permOf g.ps es.length (kws.filterMap (·.arg)) with
          | some is2, some perm => some (.callk (g.keep || decide (0 < d)) g.id perm (is ++ is2))
          | _, _ => none)
      | none => none)
    | none => if kws.isEmpty then (if f = "isinstance" then (match es with
        | [e, .Name x p] => if notStar e then (match rec Γ 0 e, cTys Γ [.Name x p] with
          | some i, some ts => some (.bi false (.isinst ts) [i])
          | _, _ => none) else none
        | [e, .Tuple ts k p] => if notStar e then (match rec Γ 0 e, cTys Γ ts with
          | some i, some ts => if ts.length ≤ 1000 then some (.bi false (.isinst ts) [i]) else none
          | _, _ => none) else none
        | _ => none)
      else match es with
        | [] => none
        | e :: es => (match lookBi f (es.length + 1) biTab, cEs (rec Γ (deep d)) (e :: es) with
          | some t, some is => some (.bi (decide (0 < d)) t.2.2 is)
          | _, _ => none)) else none) else none
theorem cTys_ok {X : Cx} {w : Wish} {cl : Cl} {Γ : Cn} (ok : XOk X w cl Γ) : ∀ {es : List Expr} {ts : List Ty}, cTys Γ es = some ts → AllTy X es ts
  | [], ts, h => by cases h; exact .nil
  | e :: es, ts, h => by
    cases e with
    | Name x p =>
      have h : (if glB Γ x then (match look x tyTab, cTys Γ es with
        | some t, some ts => some (t.2 :: ts)
        | _, _ => none) else none) = some ts := h
      split at h
      · rename_i hg
        split at h
        · rename_i t ts' h1 h2
          cases h
          obtain ⟨m1, m2⟩ := look_ok h1
          obtain ⟨t1, t2, t3⟩ := ty_tab t m1
          exact .cons t1 (m2 ▸ t2) (gl_ok ok hg).1 (ok.mg x (m2 ▸ t3)) (cTys_ok ok h2)
        · cases h
      · cases h
    | _ => cases h
theorem cCall_ok {rec : Rec} (hr : RecOk rec) {Γ : Cn} {X : Cx} {w : Wish} {cl : Cl} (ok : XOk X w cl Γ) {d : Nat} {f : Str} {es : List Expr} {kws : List Keyword} {ir : Ex} {p pos : Pos} (h : cCall rec Γ d f es kws = some ir) : SB X w cl (.Call (.Name f p) es kws pos) ir := by
  unfold cCall at h
  split at h
  · rename_i hg
    obtain ⟨g1, g2⟩ := gl_ok ok hg
    split at h
    · rename_i g hs
      obtain ⟨m1, m2⟩ := sgOf_ok hs
      have F := ok.fns g m1
      rw [m2] at F
      split at h
      · rename_i is hi
        obtain ⟨a1, a2, a3⟩ := cArgs_ok (fun d e ir => hr Γ X w cl d e ir ok) hi
        split at h
        · rename_i hk
          have hk : kws = [] := List.isEmpty_iff.mp hk
          subst hk
          split at h
          · rename_i hp
            cases h
            exact se_call ok.tk ok.room.guards F g1 g2 a2 hp a1 a3
          · cases h
        · split at h
          · rename_i is2 perm h1 h2
            cases h
            obtain ⟨b1, b2, b3⟩ := cKs_ok (fun e ir => hr Γ X w cl 0 e ir ok) h1
            exact se_callk ok.tk ok.room.guards F g1 g2 a2 b2 rfl h2 a1 b1 a3 b3
          · cases h
      · cases h
    · split at h
      · rename_i hk
        have hk : kws = [] := List.isEmpty_iff.mp hk
        subst hk
        split at h
        · rename_i hf
          split at h
          · rename_i e x p2
            split at h
            · rename_i hn
              split at h
              · rename_i i ts h1 h2
                cases h
                cases cTys_ok ok h2 with
                | cons t1 t2 t3 t4 t5 =>
                  cases t5
                  exact se_isi hf g1 (ok.mg f (by rw [hf]; decide +kernel)) hn (hr Γ X w cl 0 e i ok h1).v t1 t2 t3 t4
              · cases h
            · cases h
          · rename_i e ts' k p2
            split at h
            · rename_i hn
              split at h
              · rename_i i ts h1 h2
                split at h
                · rename_i hl
                  cases h
                  exact se_isiT hf g1 (ok.mg f (by rw [hf]; decide +kernel)) hn (hr Γ X w cl 0 e i ok h1).v (cTys_ok ok h2) hl
                · cases h
              · cases h
            · cases h
          · cases h
        · split at h
          · cases h
          · rename_i e es'
            split at h
            · rename_i t is h1 h2
              cases h
              obtain ⟨m1, m2⟩ := lookBi_ok h1
              obtain ⟨b1, b2, b3, b4, b5⟩ := bi_tab t m1
              rw [m2] at b1 b3 b4 b5
              obtain ⟨c1, c2, c3, _⟩ := cEs_ok (fun e ir => hr Γ X w cl (deep d) e ir ok) h2
              exact bi_call ok.room b2 g1 (ok.mg f b5) b1 b3 b4 c2 c1
            · cases h
      · cases h
  · cases h
end Tw
set_option Elab.async false
set_option linter.all false
set_option autoImplicit false
set_option maxRecDepth 100000
/-! TwComp3: expressions, whole. -/
namespace Tw
open PySem PySem.Spec PyProof.Rows L2
def isTupE : Expr → Bool
  | .Tuple .. => true
  | _ => false
/-- what is walked -/
def cI (rec : Rec) (Γ : Cn) (tg : Expr) (e : Expr) : Option It := match e with
  | .Call (.Name f _) [a] [] _ =>
    if f = "range" ∧ glB Γ f = true ∧ notStar a = true then (rec Γ 0 a).map fun i => .range [i]
    else if f = "enumerate" ∧ glB Γ f = true ∧ notStar a = true then (if isTupE tg then (rec Γ 0 a).map .enum else none)
    else (rec Γ 0 e).map .pl
  | .Call (.Name f _) [a, b] [] _ =>
    if f = "range" ∧ glB Γ f = true ∧ notStar a = true ∧ notStar b = true then (match rec Γ 0 a, rec Γ 0 b with
      | some i, some j => some (.range [i, j])
      | _, _ => none)
    else if f = "zip" ∧ glB Γ f = true ∧ notStar a = true ∧ notStar b = true then (if isTupE tg then (match rec Γ 0 a, rec Γ 0 b with
      | some i, some j => some (.zip i j)
      | _, _ => none) else none)
    else (rec Γ 0 e).map .pl
  | _ => if notSet e then (rec Γ 0 e).map .pl else none
theorem cI_ok {rec : Rec} (hr : RecOk rec) {Γ : Cn} {X : Cx} {w : Wish} {cl : Cl} (ok : XOk X w cl Γ) {tg e : Expr} {it : It} (h : cI rec Γ tg e = some it) : SI X w cl tg e it ∧ notSet e = true := by
  have pl : ∀ {e : Expr} {it : It}, (rec Γ 0 e).map It.pl = some it → SI X w cl tg e it := fun {e it} h => by
    obtain ⟨i, hi, rfl⟩ := Option.map_eq_some_iff.mp h
    exact si_pl (hr Γ X w cl 0 e i ok hi).v
  have nm : ∀ f : Str, f ∈ biNm → X.mg f = none := ok.mg
  unfold cI at h
  split at h
  · rename_i f p a pos
    refine ⟨?_, rfl⟩
    split at h
    · rename_i hc
      obtain ⟨c1, c2, c3⟩ := hc
      obtain ⟨i, hi, rfl⟩ := Option.map_eq_some_iff.mp h
      subst c1
      exact si_range1 (gl_ok ok c2).1 (nm _ (by decide +kernel)) c3 (sa_cons c3 (hr Γ X w cl 0 a i ok hi).v sa_nil)
    · split at h
      · rename_i hc
        obtain ⟨c1, c2, c3⟩ := hc
        split at h
        · rename_i ht
          obtain ⟨i, hi, rfl⟩ := Option.map_eq_some_iff.mp h
          subst c1
          cases tg <;> try (exact absurd ht Bool.false_ne_true)
          exact si_enum (gl_ok ok c2).1 (nm _ (by decide +kernel)) c3 (hr Γ X w cl 0 a i ok hi).v
        · cases h
      · exact pl h
  · rename_i f p a b pos
    refine ⟨?_, rfl⟩
    split at h
    · rename_i hc
      obtain ⟨c1, c2, c3, c4⟩ := hc
      split at h
      · rename_i i j hi hj
        cases h
        subst c1
        exact si_range2 (gl_ok ok c2).1 (nm _ (by decide +kernel)) c3 c4 (sa_cons c3 (hr Γ X w cl 0 a i ok hi).v (sa_cons c4 (hr Γ X w cl 0 b j ok hj).v sa_nil))
      · cases h
    · split at h
      · rename_i hc
        obtain ⟨c1, c2, c3, c4⟩ := hc
        split at h
        · rename_i ht
          split at h
          · rename_i i j hi hj
            cases h
            subst c1
            cases tg <;> try (exact absurd ht Bool.false_ne_true)
            exact si_zip (gl_ok ok c2).1 (nm _ (by decide +kernel)) c3 c4 (hr Γ X w cl 0 a i ok hi).v (hr Γ X w cl 0 b j ok hj).v
          · cases h
        · cases h
      · exact pl h
  · split at h
    · rename_i hn
      exact ⟨pl h, hn⟩
    · cases h
/-- a block's own names with their places -/
def ownOf (Γ : Cn) : List (Str × NameKind) → List (Str × Nat)
  | [] => []
  | (x, k) :: r => match k with
    | .local => (match slot Γ x with
      | some i => (x, i) :: ownOf Γ r
      | none => ownOf Γ r)
    | .cell => (match slot Γ x with
      | some i => (x, i) :: ownOf Γ r
      | none => ownOf Γ r)
    | _ => ownOf Γ r
def cIfs (f : Expr → Option Ex) : List Expr → Option (List Ex)
  | [] => some []
  | [e] => (f e).map fun i => [i]
  | _ => none
def cComp (rec : Rec) (Γ : Cn) (d : Nat) (elt tg iter : Expr) (ifs : List Expr) (scope : Scope) : Option (Ex × List (Str × Nat) × Tg × It × List Ex × Ex) :=
  if blkC Γ.N Γ.sc scope (ownOf Γ scope.names) then (match cI rec Γ tg iter, cTg (Γ.inn scope) 8 tg, cIfs (rec (Γ.inn scope) 0) ifs, rec (Γ.inn scope) (d - 1) elt with
    | some it, some t, some cs, some ir => if (tvs t).all fun i => ((ownOf Γ scope.names).map (·.2)).contains i then some (.comp (decide (0 < d)) ir t it cs ((ownOf Γ scope.names).map (·.2)), ownOf Γ scope.names, t, it, cs, ir) else none
    | _, _, _, _ => none) else none
theorem cComp_ok {rec : Rec} (hr : RecOk rec) {Γ : Cn} {X : Cx} {w : Wish} {cl : Cl} (ok : XOk X w cl Γ) {d : Nat} {elt tg iter : Expr} {ifs : List Expr} {scope : Scope} {e : Ex} {own : List (Str × Nat)} {t : Tg} {it : It} {cs : List Ex} {ir : Ex}
    (h : cComp rec Γ d elt tg iter ifs scope = some (e, own, t, it, cs, ir)) : e = .comp (decide (0 < d)) ir t it cs (own.map (·.2)) ∧ SI X w cl tg iter it ∧ notSet iter = true ∧ BlkOk X.N X.env.scope scope own ∧ (∀ i ∈ tvs t, i ∈ own.map (·.2)) ∧
      ∀ (s : Shared) (H : Hp) (C : Addr) (cell : List (Str × Addr)) (fp : List Addr), PG (X.blk s H scope (compEnvC scope cell C X.env) fp) tg (rdG X.K t) ∧ STs (X.blk s H scope (compEnvC scope cell C X.env) fp) w.shut cl ifs cs ∧ SE (X.blk s H scope (compEnvC scope cell C X.env) fp) w.shut cl elt ir := by
  unfold cComp at h
  split at h
  · rename_i hb
    split at h
    · rename_i it' t' cs' ir' h1 h2 h3 h4
      split at h
      · rename_i hv
        cases h
        have hbk := blkOk_by hb
        obtain ⟨i1, i2⟩ := cI_ok hr ok h1
        refine ⟨rfl, i1, i2, by rw [ok.N, ok.sc]; exact hbk, fun i hi => ?_, fun s H C cell fp => ?_⟩
        · have := List.all_eq_true.mp hv i hi
          simpa using this
        · have ok2 := ok.inn hbk.kind s H C cell fp
          refine ⟨(cTg_ok ok2 8).1 _ _ h2, ?_, (hr _ _ _ _ _ _ _ ok2 h4).v⟩
          unfold cIfs at h3
          split at h3
          · cases h3; exact sts_nil
          · obtain ⟨i, hi, rfl⟩ := Option.map_eq_some_iff.mp h3
            exact sts_one (hr _ _ _ _ _ _ _ ok2 hi)
          · cases h3
      · cases h
    · cases h
  · cases h
/-- a block's head: what is walked, the target, the tests -/
def cBlk (rec : Rec) (Γ : Cn) (tg iter : Expr) (ifs : List Expr) (scope : Scope) : Option (Tg × It × List Ex) :=
  if blkC Γ.N Γ.sc scope (ownOf Γ scope.names) then (match cI rec Γ tg iter, cTg (Γ.inn scope) 8 tg, cIfs (rec (Γ.inn scope) 0) ifs with
    | some it, some t, some cs => if (tvs t).all fun i => ((ownOf Γ scope.names).map (·.2)).contains i then some (t, it, cs) else none
    | _, _, _ => none) else none
theorem cBlk_ok {rec : Rec} (hr : RecOk rec) {Γ : Cn} {X : Cx} {w : Wish} {cl : Cl} (ok : XOk X w cl Γ) {tg iter : Expr} {ifs : List Expr} {scope : Scope} {t : Tg} {it : It} {cs : List Ex} (h : cBlk rec Γ tg iter ifs scope = some (t, it, cs)) :
    SI X w cl tg iter it ∧ notSet iter = true ∧ BlkOk X.N X.env.scope scope (ownOf Γ scope.names) ∧ (∀ i ∈ tvs t, i ∈ (ownOf Γ scope.names).map (·.2)) ∧
      ∀ (s : Shared) (H : Hp) (C : Addr) (cell : List (Str × Addr)) (fp : List Addr), PG (X.blk s H scope (compEnvC scope cell C X.env) fp) tg (rdG X.K t) ∧ STs (X.blk s H scope (compEnvC scope cell C X.env) fp) w.shut cl ifs cs ∧ ∀ d e ir, rec (Γ.inn scope) d e = some ir → SE (X.blk s H scope (compEnvC scope cell C X.env) fp) w.shut cl e ir := by
  unfold cBlk at h
  split at h
  · rename_i hb
    split at h
    · rename_i it' t' cs' h1 h2 h3
      split at h
      · rename_i hv
        cases h
        have hbk := blkOk_by hb
        obtain ⟨i1, i2⟩ := cI_ok hr ok h1
        refine ⟨i1, i2, by rw [ok.N, ok.sc]; exact hbk, fun i hi => ?_, fun s H C cell fp => ?_⟩
        · have := List.all_eq_true.mp hv i hi
          simpa using this
        · have ok2 := ok.inn hbk.kind s H C cell fp
          refine ⟨(cTg_ok ok2 8).1 _ _ h2, ?_, fun d e ir h4 => (hr _ _ _ _ _ _ _ ok2 h4).v⟩
          unfold cIfs at h3
          split at h3
          · cases h3; exact sts_nil
          · obtain ⟨i, hi, rfl⟩ := Option.map_eq_some_iff.mp h3
            exact sts_one (hr _ _ _ _ _ _ _ ok2 hi)
          · cases h3
      · cases h
    · cases h
  · cases h
/-- a class of errors, by its name -/
def xtOf (Γ : Cn) (x : Str) : Option Xt := match Γ.xs.find? fun c => decide (x = Str.ofString c) with
  | some c => some (.own c)
  | none => (xBas.find? fun t => decide (x = Str.ofString t)).map .bas
def cXts (Γ : Cn) : List Expr → Option (List Xt)
  | [] => some []
  | .Name x _ :: es => if glB Γ x then (match xtOf Γ x, cXts Γ es with
    | some t, some ts => some (t :: ts)
    | _, _ => none) else none
  | _ :: _ => none
theorem xBas_nm : (xBas.all fun t => decide (Str.ofString t ∈ biNm)) = true := by decide +kernel
theorem cXts_ok {X : Cx} {w : Wish} {cl : Cl} {Γ : Cn} (ok : XOk X w cl Γ) (hd : Γ.dfn = true) : ∀ {es : List Expr} {ts : List Xt}, cXts Γ es = some ts → AllXt X es ts
  | [], ts, h => by cases h; exact .nil
  | e :: es, ts, h => by
    cases e with
    | Name x p =>
      have h : (if glB Γ x then (match xtOf Γ x, cXts Γ es with
        | some t, some ts => some (t :: ts)
        | _, _ => none) else none) = some ts := h
      split at h
      · rename_i hg
        obtain ⟨g1, g2⟩ := gl_ok ok hg
        split at h
        · rename_i t ts' h1 h2
          cases h
          unfold xtOf at h1
          split at h1
          · rename_i c hc
            cases h1
            have e1 := of_decide_eq_true (List.find?_some (p := fun c => decide (x = Str.ofString c)) hc)
            have M := (ok.df hd).mks c (List.mem_of_find?_eq_some hc)
            exact .own e1 g1 g2 (by rw [e1]; exact M.mg) M.G (cXts_ok ok hd h2)
          · obtain ⟨t, ht, rfl⟩ := Option.map_eq_some_iff.mp h1
            have e1 := of_decide_eq_true (List.find?_some (p := fun t => decide (x = Str.ofString t)) ht)
            have hm := List.mem_of_find?_eq_some ht
            exact .bas e1 g1 (ok.mg x (by rw [e1]; exact of_decide_eq_true (List.all_eq_true.mp xBas_nm t hm))) hm (cXts_ok ok hd h2)
        · cases h
      · cases h
    | _ => cases h
/-- isinstance of an error -/
def cIsx (rec : Rec) (Γ : Cn) (f : Str) (es : List Expr) : Option Ex := if f = "isinstance" ∧ glB Γ f = true ∧ Γ.dfn = true then (match es with
  | [e, .Name x p] => if notStar e then (match rec Γ 0 e, cXts Γ [.Name x p] with
    | some i, some [t] => some (.isx i [t])
    | _, _ => none) else none
  | [e, .Tuple ts _ _] => if notStar e then (match rec Γ 0 e, cXts Γ ts with
    | some i, some ts => if ts.length ≤ 1000 then some (.isx i ts) else none
    | _, _ => none) else none
  | _ => none) else none
theorem cIsx_ok {rec : Rec} (hr : RecOk rec) {Γ : Cn} {X : Cx} {w : Wish} {cl : Cl} (ok : XOk X w cl Γ) {f : Str} {es : List Expr} {ir : Ex} {p pos : Pos} (h : cIsx rec Γ f es = some ir) : SB X w cl (.Call (.Name f p) es [] pos) ir := by
  unfold cIsx at h
  split at h
  · rename_i hc
    obtain ⟨hf, hg, hd⟩ := hc
    have g1 := (gl_ok ok hg).1
    have gm := ok.mg f (by rw [hf]; decide +kernel)
    split at h
    · rename_i e x p2
      split at h
      · rename_i hn
        split at h
        · rename_i i t h1 h2
          cases h
          exact se_isx1 hf g1 gm hn rfl (hr Γ X w cl 0 e i ok h1).v (cXts_ok ok hd h2)
        · cases h
      · cases h
    · rename_i e ts k p2
      split at h
      · rename_i hn
        split at h
        · rename_i i ts' h1 h2
          split at h
          · rename_i hl
            cases h
            exact se_isxT hf g1 gm hn (hr Γ X w cl 0 e i ok h1).v (cXts_ok ok hd h2) hl
          · cases h
        · cases h
      · cases h
    · cases h
  · cases h
/-- a method of what a call has made: kept apart -/
def rdep : Expr → Nat
  | .Call .. => 1
  | _ => 0
def stepE (rec : Rec) (Γ : Cn) (d : Nat) (e : Expr) : Option Ex := match e with
  | .Name x _ => if visB Γ x = true ∧ (x == ("__debug__" : Str)) = false ∧ (x == ("__classdict__" : Str)) = false then (slot Γ x).map .var else none
  | .Constant c _ _ => (cC c).map .lit
  | .BinOp a op b _ => (match opB op, rec Γ (deep d) a, rec Γ (deep d) b with
    | some o, some i, some j => some (.bin (decide (0 < d)) o i j)
    | _, _, _ => none)
  | .UnaryOp .USub a _ => (rec Γ 0 a).map .neg
  | .UnaryOp .Not a _ => (rec Γ 0 a).map .no
  | .BoolOp op es _ => if es.isEmpty then none else (match op with
    | .And => (cEs (rec Γ d) es).map .conj
    | .Or => (cEs (rec Γ d) es).map .disj)
  | .IfExp c a b _ => (match rec Γ 0 c, rec Γ d a, rec Γ d b with
    | some i, some j, some k => some (.ite i j k)
    | _, _, _ => none)
  | .Tuple es _ _ => (cEs (rec Γ d) es).map .tup
  | .List es _ => (cEs (rec Γ (d - 1)) es).map (.lst (decide (0 < d)))
  | .Compare a [op] [b] _ => if behindInMarks op b then none else (match opC op, rec Γ 0 a, rec Γ 0 b with
    | some o, some i, some j => some (.cmp o i j)
    | _, _, _ => none)
  | .Compare a [op, op'] [b, c] _ => if lastMarks [op, op'] [b, c] then none else (match opC op, opC op', rec Γ 0 a, rec Γ 0 b, rec Γ 0 c with
    | some o, some o', some i, some j, some k => some (.chain o o' i j k)
    | _, _, _, _, _ => none)
  | .Subscript a (.Slice lo hi none _) _ => (match rec Γ (deep d) a, cOp (rec Γ 0) lo, cOp (rec Γ 0) hi with
    | some i, some l, some u => some (.sl (decide (0 < d)) i l u)
    | _, _, _ => none)
  | .Subscript a b _ => if okSub b then (match rec Γ 0 a, rec Γ 0 b with
    | some i, some j => some (.idx i j)
    | _, _ => none) else none
  | .Call (.Name f _) [.SetComp elt [⟨tg, iter, ifs, 0⟩] scope _] [] _ => if f = "sorted" ∧ glB Γ f = true then (match cBlk rec Γ tg iter ifs scope, rec (Γ.inn scope) 0 elt with
    | some (t, it, cs), some ir => some (.scomp (decide (0 < d)) ir t it cs ((ownOf Γ scope.names).map (·.2)))
    | _, _ => none) else none
  | .Call (.Name f _) es kws _ => if kws.isEmpty = true ∧ (cIsx rec Γ f es).isSome = true then cIsx rec Γ f es else cCall rec Γ d f es kws
  | .Call (.Attribute o n ap) [a, b] [] cp => if n = "get" ∧ okBase o = true ∧ (ap.endLine == cp.line) = true ∧ notStar a = true ∧ notStar b = true then (match rec Γ 0 o, rec Γ 0 a, rec Γ 0 b with
    | some i, some j, some k => some (.bm .get i [j, k])
    | _, _, _ => none) else none
  | .DictComp kx vx [⟨tg, iter, ifs, 0⟩] scope _ => (match cBlk rec Γ tg iter ifs scope, rec (Γ.inn scope) 0 kx, rec (Γ.inn scope) 0 vx with
    | some (t, it, cs), some ik, some iv => some (.dcomp (decide (0 < d)) (isTupE kx) ik iv t it cs ((ownOf Γ scope.names).map (·.2)))
    | _, _, _ => none)
  | .Call (.Attribute o n ap) [a] [] cp => if okBase o = true ∧ (ap.endLine == cp.line) = true ∧ notStar a = true then (match bm1Of n, rec Γ (rdep o) o, rec Γ 0 a with
    | some b, some i, some j => some (.bm b i [j])
    | _, _, _ => none) else none
  | .Call (.Attribute o n ap) [] [] cp => if okBase o = true ∧ (ap.endLine == cp.line) = true then (match bm0Of n, rec Γ 0 o with
    | some b, some i => some (.bm b i [])
    | _, _ => none) else none
  | .ListComp elt [⟨tg, iter, ifs, 0⟩] scope _ => (cComp rec Γ d elt tg iter ifs scope).map fun r => r.1
  | .Attribute e n _ => if okBase e = true then (rec Γ 0 e).map (.fld · n) else none
  | _ => none
theorem cOp_ok {X : Cx} {w : Wish} {cl : Cl} {f : Expr → Option Ex} (h : ∀ e ir, f e = some ir → SB X w cl e ir) {o : Option Expr} {ir : Ex} (e : cOp f o = some ir) : SO X w cl o ir := by
  cases o with
  | none => cases e; rfl
  | some b =>
    unfold cOp at e
    dsimp only at e
    split at e
    · cases e
    · rename_i hn
      exact ⟨(h _ _ e).v, fun z => hn (by rw [e, z])⟩
theorem stepE_ok {rec : Rec} (hr : RecOk rec) : RecOk (stepE rec) := by
  intro Γ X w cl d e ir ok h
  have rr : ∀ d e ir, rec Γ d e = some ir → SB X w cl e ir := fun d e ir => hr Γ X w cl d e ir ok
  have hu : X.A.units + 65 < cLine := by have := ok.room.units; omega
  unfold stepE at h
  split at h
  · split at h
    · rename_i hc
      obtain ⟨i, hi, rfl⟩ := Option.map_eq_some_iff.mp h
      exact se_var (slot_ok ok hi) (vis_ok ok hc.1) hc.2.1 hc.2.2
    · cases h
  · rename_i c j pos
    obtain ⟨l, hl, rfl⟩ := Option.map_eq_some_iff.mp h
    cases c <;> cases hl
    · exact se_const pe_non (fun _ _ _ => .non) fun _ => rfl
    · exact se_const pe_bl (fun _ _ _ => .bl _) fun _ => rfl
    · exact se_const pe_int (fun _ _ _ => .int _) fun _ => rfl
    · exact se_const pe_str (fun _ _ _ => .str _) fun _ => rfl
  · split at h
    · rename_i o i j h1 h2 h3
      cases h
      exact se_bin (opB_ok h1) (rr _ _ _ h2).v (rr _ _ _ h3).v
    · cases h
  · obtain ⟨i, hi, rfl⟩ := Option.map_eq_some_iff.mp h
    exact se_neg (rr _ _ _ hi).v
  · obtain ⟨i, hi, rfl⟩ := Option.map_eq_some_iff.mp h
    exact se_no (rr _ _ _ hi)
  · split at h
    · cases h
    · rename_i hn
      split at h
      · obtain ⟨is, hi, rfl⟩ := Option.map_eq_some_iff.mp h
        obtain ⟨_, _, _, a4⟩ := cEs_ok (rr d) hi
        exact se_and a4 (fun z => hn (by rw [z]; rfl))
      · obtain ⟨is, hi, rfl⟩ := Option.map_eq_some_iff.mp h
        obtain ⟨_, _, _, a4⟩ := cEs_ok (rr d) hi
        exact se_or a4 (fun z => hn (by rw [z]; rfl))
  · split at h
    · rename_i i j k h1 h2 h3
      cases h
      exact se_ite (rr _ _ _ h1) (rr _ _ _ h2) (rr _ _ _ h3)
    · cases h
  · obtain ⟨is, hi, rfl⟩ := Option.map_eq_some_iff.mp h
    exact se_tup (cEs_ok (rr d) hi).1
  · obtain ⟨is, hi, rfl⟩ := Option.map_eq_some_iff.mp h
    exact se_lst (cEs_ok (rr (d - 1)) hi).1
  · split at h
    · cases h
    · rename_i hm
      split at h
      · rename_i o i j h1 h2 h3
        cases h
        exact se_cmp hu (opC_ok h1) (by simpa using hm) (rr _ _ _ h2).v (rr _ _ _ h3).v
      · cases h
  · split at h
    · cases h
    · rename_i hm
      split at h
      · rename_i o o' i j k h1 h2 h3 h4 h5
        cases h
        exact se_chain hu (opC_ok h1) (opC_ok h2) (by simpa using hm) (rr _ _ _ h3).v (rr _ _ _ h4).v (rr _ _ _ h5).v
      · cases h
  · split at h
    · rename_i i l u h1 h2 h3
      cases h
      exact se_sl (rr _ _ _ h1).v (cOp_ok (rr 0) h2) (cOp_ok (rr 0) h3)
    · cases h
  · split at h
    · rename_i hs
      split at h
      · rename_i i j h1 h2
        cases h
        exact se_idx hu hs (rr _ _ _ h1).v (rr _ _ _ h2).v
      · cases h
    · cases h
  · split at h
    · rename_i hc
      obtain ⟨rfl, hc⟩ := hc
      split at h
      · rename_i t it cs ir' h1 h2
        cases h
        obtain ⟨c1, c2, c3, c4, c5⟩ := cBlk_ok hr ok h1
        exact se_sset (gl_ok ok hc).1 (ok.mg _ (by decide +kernel)) ok.room.calm ok.nd c1 c2 c3 c4 fun s H C cell fp => ⟨(c5 s H C cell fp).1, (c5 s H C cell fp).2.1, (c5 s H C cell fp).2.2 _ _ _ h2⟩
      · cases h
    · cases h
  · split at h
    · rename_i hc
      have hk := List.isEmpty_iff.mp hc.1
      subst hk
      exact cIsx_ok hr ok h
    · exact cCall_ok hr ok h
  · split at h
    · rename_i hc
      obtain ⟨rfl, c1, c2, c3, c4⟩ := hc
      split at h
      · rename_i i j k h1 h2 h3
        cases h
        exact se_get hu (rr _ _ _ h1).v (rr _ _ _ h2).v (rr _ _ _ h3).v c3 c4 c1 c2
      · cases h
    · cases h
  · split at h
    · rename_i t it cs ik iv h1 h2 h3
      cases h
      obtain ⟨c1, c2, c3, c4, c5⟩ := cBlk_ok hr ok h1
      exact se_dcomp hu ok.room.calm ok.nd c1 c2 c3 c4 fun s H C cell fp => ⟨(c5 s H C cell fp).1, (c5 s H C cell fp).2.1, (c5 s H C cell fp).2.2 _ _ _ h2, (c5 s H C cell fp).2.2 _ _ _ h3⟩
    · cases h
  · split at h
    · rename_i hc
      split at h
      · rename_i b i j h1 h2 h3
        cases h
        exact se_bm1_of h1 (rr _ _ _ h2).v (sa_cons hc.2.2 (rr _ _ _ h3).v sa_nil) hc.2.2 hc.1 hc.2.1
      · cases h
    · cases h
  · split at h
    · rename_i hc
      split at h
      · rename_i b i h1 h2
        cases h
        exact se_bm0_of h1 (rr _ _ _ h2).v hc.1 hc.2
      · cases h
    · cases h
  · obtain ⟨⟨e', own, t, it, cs, ir'⟩, hq, he⟩ := Option.map_eq_some_iff.mp h
    have he : e' = ir := he
    subst he
    obtain ⟨rfl, c1, c2, c3, c4, c5⟩ := cComp_ok hr ok hq
    exact se_comp ok.room.calm ok.nd c1 c2 c3 c4 c5
  · split at h
    · rename_i hc
      obtain ⟨i, hi, rfl⟩ := Option.map_eq_some_iff.mp h
      exact se_fld (rr _ _ _ hi).v hc
    · cases h
  · cases h
/-- expressions -/
def cE : Nat → Rec
  | 0 => fun _ _ _ => none
  | n + 1 => stepE (cE n)
theorem cE_ok : ∀ n : Nat, RecOk (cE n)
  | 0 => fun _ _ _ _ _ _ _ _ h => by cases h
  | n + 1 => stepE_ok (cE_ok n)
end Tw
set_option Elab.async false
set_option linter.all false
set_option autoImplicit false
set_option maxRecDepth 100000
/-! TwComp4: statements. -/
namespace Tw
open PySem PySem.Spec PyProof.Rows L2
/-- the names of swapped stores; none: not so stored -/
def swN (sc : Scope) (ts : List Expr) : List Str := ts.filterMap fun t => match t with
  | .Name x p => if sc.names.lookup x == some .local && p.line == (ts.head?.map fun u => u.pos.line).getD 0 then some x else none
  | _ => none
def isStar : Expr → Bool
  | .Starred .. => true
  | _ => false
def swC (sc : Scope) (ts vs : List Expr) : Option (Option (List Str)) :=
  if !(ts.length == 2 || ts.length == 3) || vs.length != ts.length then some none
  else if vs.any isStar then some none
  else if (swN sc ts).length != ts.length || (swN sc ts).eraseDups.length != (swN sc ts).length then some none
  else if vs.all (foldedForSure 8) then some none
  else if vs.all (constantsAlone 8) then none
  else some (some (swN sc ts))
theorem swC_ok {X : Cx} {w : Wish} {cl : Cl} {Γ : Cn} (ok : XOk X w cl Γ) {ts vs : List Expr} {k k2 : Nat} {p p2 : Pos} {r : Option (List Str)} (h : swC Γ.sc ts vs = some r) : swappedStores [.Tuple ts k p] (.Tuple vs k2 p2) X.env = pure r := by
  have hb : X.env.blockKind = .function := by
    unfold Env.blockKind
    rw [ok.kind]
    rfl
  rw [← ok.sc] at h
  show (if (!(ts.length == 2 || ts.length == 3) || vs.length != ts.length || X.env.blockKind != .function) = true then pure none
    else if vs.any isStar = true then pure none
    else if ((swN X.env.scope ts).length != ts.length || (swN X.env.scope ts).eraseDups.length != (swN X.env.scope ts).length) = true then pure none
    else if vs.all (foldedForSure 8) = true then pure none
    else if vs.all (constantsAlone 8) = true then (do
      unsupported "assign.tuple-of-constant-expressions:order-of-the-stores"
      pure (some (swN X.env.scope ts)))
    else pure (some (swN X.env.scope ts))) = (pure r : Sem (Option (List Str)))
  unfold swC at h
  rw [hb]
  have e0 : (ScopeKind.function != ScopeKind.function) = false := by decide
  rw [e0, Bool.or_false]
  split at h
  · rename_i c1
    cases h
    rw [if_pos c1]
  · rename_i c1
    rw [if_neg c1]
    split at h
    · rename_i c2
      cases h
      rw [if_pos c2]
    · rename_i c2
      rw [if_neg c2]
      split at h
      · rename_i c3
        cases h
        rw [if_pos c3]
      · rename_i c3
        rw [if_neg c3]
        split at h
        · rename_i c4
          cases h
          rw [if_pos c4]
        · rename_i c4
          rw [if_neg c4]
          split at h
          · cases h
          · rename_i c5
            cases h
            rw [if_neg c5]
def swB (sc : Scope) (t : Str) (p : Pos) (scope : Scope) (vp : Pos) : Bool :=
  sc.names.lookup t == some .local && p.line == vp.line && !(scope.names.any fun (n, k) => n == t && (k == .local || k == .cell))
theorem swB_ok {X : Cx} {w : Wish} {cl : Cl} {Γ : Cn} (ok : XOk X w cl Γ) {elt : Expr} {gs : List Comprehension} {scope : Scope} {t : Str} {p vp : Pos} {l : Nat} : swapsWith (.ListComp elt gs scope vp) (some (.Name t p)) l X.env = pure (swB Γ.sc t p scope vp) := by
  have hb : X.env.blockKind = .function := by
    unfold Env.blockKind
    rw [ok.kind]
    rfl
  show (pure (X.env.blockKind == .function && X.env.scope.names.lookup t == some .local && p.line == vp.line && !(scope.names.any fun (n, k) => n == t && (k == .local || k == .cell))) : Sem Bool) = _
  rw [hb, ok.sc]
  unfold swB
  have e0 : (ScopeKind.function == ScopeKind.function) = true := by decide
  rw [e0, Bool.true_and]
theorem sole_eq (t e : Expr) (l : Nat) (env : Env) : swapsWithSole [t] e l env = swapsWith e (some t) l env := by
  first | rfl | (unfold swapsWithSole; rfl)
def notComp : Expr → Bool
  | .ListComp .. => false
  | .SetComp .. => false
  | .DictComp .. => false
  | _ => true
theorem notComp_ok {e : Expr} (h : notComp e = true) (t : Option Expr) (l : Nat) (env : Env) : swapsWith e t l env = pure false := by
  cases e <;> first | rfl | cases h
def mutOf (Γ : Cn) (x : Str) : Nat := match look x Γ.muts with
  | some p => p.2
  | none => 0
def locL (Γ : Cn) (x : Str) : Bool := Γ.sc.names.lookup x == some .local
theorem locL_ok {X : Cx} {w : Wish} {cl : Cl} {Γ : Cn} (ok : XOk X w cl Γ) {x : Str} (h : locL Γ x = true) : X.env.scope.names.lookup x = some .local := by
  rw [ok.sc]
  unfold locL at h
  simpa using h
/-- the deepest of a target's names -/
def tgDep (Γ : Cn) : List Expr → Nat
  | [] => 0
  | .Name x _ :: es => max (mutOf Γ x) (tgDep Γ es)
  | _ :: es => tgDep Γ es
def cPlain (rec : Rec) (Γ : Cn) (d : Nat) (tg e : Expr) : Option Stm := if notStar tg then (match cTg Γ 8 tg, rec Γ d e with
  | some t, some i => some (.asg t i)
  | _, _ => none) else none
def cPar (rec : Rec) (Γ : Cn) (ts vs : List Expr) (names : List Str) : Option Stm := match ts, vs with
  | [.Name x _, .Name y _], [a, b] => if names = [x, y] ∧ locL Γ x = true ∧ locL Γ y = true then (match slot Γ x, slot Γ y, cArgs (rec Γ) [mutOf Γ x, mutOf Γ y] [a, b] with
    | some i, some j, some [ia, ib] => if i ≠ j then some (.asg (.tup [.var i, .var j]) (.tup [ia, ib])) else none
    | _, _, _ => none) else none
  | [.Name x _, .Name y _, .Name z _], [a, b, c] => if names = [x, y, z] ∧ locL Γ x = true ∧ locL Γ y = true ∧ locL Γ z = true then (match slot Γ x, slot Γ y, slot Γ z, cArgs (rec Γ) [mutOf Γ x, mutOf Γ y, mutOf Γ z] [a, b, c] with
    | some i, some j, some l, some [ia, ib, ic] => if i ≠ j ∧ i ≠ l ∧ j ≠ l then some (.asg (.tup [.var i, .var j, .var l]) (.tup [ia, ib, ic])) else none
    | _, _, _, _ => none) else none
  | _, _ => none
def cAsg (rec : Rec) (Γ : Cn) (tg e : Expr) : Option Stm := match tg with
  | .Name x p => (match e with
    | .ListComp elt [⟨tg2, iter, ifs, 0⟩] scope cp => if swB Γ.sc x p scope cp then (if locL Γ x then (match slot Γ x, cComp rec Γ (mutOf Γ x) elt tg2 iter ifs scope with
        | some i, some r => some (.asg (.var i) r.1)
        | _, _ => none) else none)
      else cPlain rec Γ (mutOf Γ x) tg e
    | _ => if notComp e then cPlain rec Γ (mutOf Γ x) tg e else none)
  | .Tuple ts _ _ => (match e with
    | .Tuple vs _ _ => (match swC Γ.sc ts vs with
      | some none => cPlain rec Γ (tgDep Γ ts) tg e
      | some (some names) => cPar rec Γ ts vs names
      | none => none)
    | _ => if notComp e then cPlain rec Γ (tgDep Γ ts) tg e else none)
  | .Subscript o i _ => if okSub i = true ∧ notComp e = true then (match rec Γ 0 o, rec Γ 0 i, rec Γ 0 e with
    | some a, some b, some c => some (.sub a b c)
    | _, _, _ => none) else none
  | _ => none
theorem cPlain_ok {rec : Rec} (hr : RecOk rec) {Γ : Cn} {X : Cx} {w : Wish} {cl : Cl} (ok : XOk X w cl Γ) {d : Nat} {tg e : Expr} {pos : Pos} {st : Stm} (h : cPlain rec Γ d tg e = some st) (hs : swapsWithSole [tg] e pos.line X.env = pure false) (hw : swappedStores [tg] e X.env = pure none) : S1 X w cl (.Assign [tg] e pos) st := by
  unfold cPlain at h
  split at h
  · rename_i hn
    split at h
    · rename_i t i h1 h2
      cases h
      exact s1_asg (sc := X.s_0) (hr Γ X w cl d e i ok h2).v ((cTg_ok ok 8).1 _ _ h1) hs hw (by rw [assignEach_cons hn]; rfl)
    · cases h
  · cases h
theorem cPar_ok {rec : Rec} (hr : RecOk rec) {Γ : Cn} {X : Cx} {w : Wish} {cl : Cl} (ok : XOk X w cl Γ) {ts vs : List Expr} {names : List Str} {k k2 : Nat} {p p2 pos : Pos} {st : Stm} (h : cPar rec Γ ts vs names = some st)
    (hw : swappedStores [.Tuple ts k p] (.Tuple vs k2 p2) X.env = pure (some names)) : S1 X w cl (.Assign [.Tuple ts k p] (.Tuple vs k2 p2) pos) st := by
  have rr : ∀ d e ir, rec Γ d e = some ir → SB X w cl e ir := fun d e ir => hr Γ X w cl d e ir ok
  unfold cPar at h
  split at h
  · split at h
    · rename_i hc
      obtain ⟨rfl, c1, c2⟩ := hc
      split at h
      · rename_i i j ia ib h1 h2 h3
        split at h
        · rename_i hij
          cases h
          exact s1_par2 ok.room.calm ok.nd (slot_ok ok h1) (slot_ok ok h2) hij (locL_ok ok c1) (locL_ok ok c2) (cArgs_ok rr h3).1 hw
        · cases h
      · cases h
    · cases h
  · split at h
    · rename_i hc
      obtain ⟨rfl, c1, c2, c3⟩ := hc
      split at h
      · rename_i i j l ia ib ic h1 h2 h3 h4
        split at h
        · rename_i hij
          cases h
          exact s1_par3 ok.room.calm ok.nd (slot_ok ok h1) (slot_ok ok h2) (slot_ok ok h3) hij.1 hij.2.1 hij.2.2 (locL_ok ok c1) (locL_ok ok c2) (locL_ok ok c3) (cArgs_ok rr h4).1 hw
        · cases h
      · cases h
    · cases h
  · cases h
theorem cAsg_ok {rec : Rec} (hr : RecOk rec) {Γ : Cn} {X : Cx} {w : Wish} {cl : Cl} (ok : XOk X w cl Γ) {tg e : Expr} {pos : Pos} {st : Stm} (h : cAsg rec Γ tg e = some st) : S1 X w cl (.Assign [tg] e pos) st := by
  unfold cAsg at h
  split at h
  · rename_i x p
    split at h
    · rename_i elt tg2 iter ifs scope cp
      split at h
      · rename_i hsw
        split at h
        · rename_i hl
          split at h
          · rename_i i r h1 h2
            cases h
            obtain ⟨e', own, t, it, cs, ir'⟩ := r
            obtain ⟨rfl, c1, c2, c3, c4, c5⟩ := cComp_ok hr ok h2
            exact s1_lc ok.room.calm ok.nd (slot_ok ok h1) (locL_ok ok hl) (by rw [swB_ok ok, hsw]) c1 c2 c3 c4 c5
          · cases h
        · cases h
      · rename_i hsw
        refine cPlain_ok hr ok h ?_ rfl
        rw [sole_eq, swB_ok ok]
        rw [show swB Γ.sc x p scope cp = false from by simpa using hsw]
    · split at h
      · rename_i hn
        exact cPlain_ok hr ok h (by rw [sole_eq]; exact notComp_ok hn _ _ _) rfl
      · cases h
  · rename_i ts k p
    split at h
    · rename_i vs k2 p2
      split at h
      · rename_i hc
        exact cPlain_ok hr ok h rfl (swC_ok ok hc)
      · rename_i names hc
        exact cPar_ok hr ok h (swC_ok ok hc)
      · cases h
    · rename_i hne
      split at h
      · rename_i hn
        refine cPlain_ok hr ok h (by rw [sole_eq]; exact notComp_ok hn _ _ _) ?_
        cases e <;> first | rfl | exact absurd rfl (hne _ _ _)
      · cases h
  · rename_i o i p
    split at h
    · rename_i hc
      split at h
      · rename_i a b c h1 h2 h3
        cases h
        exact s1_sub (by have := ok.room.units; omega) hc.1 (hr Γ X w cl 0 o a ok h1).v (hr Γ X w cl 0 i b ok h2).v (hr Γ X w cl 0 e c ok h3).v (by rw [sole_eq]; exact notComp_ok hc.2 _ _ _) rfl
      · cases h
    · cases h
  · cases h
/-- an own class, by its name -/
def xcOf (Γ : Cn) (x : Str) : Option String := if glB Γ x = true then Γ.xs.find? (fun c => decide (x = Str.ofString c)) else none
theorem xcOf_ok {X : Cx} {w : Wish} {cl : Cl} {Γ : Cn} (ok : XOk X w cl Γ) (hd : Γ.dfn = true) {x : Str} {c : String} (h : xcOf Γ x = some c) : x = Str.ofString c ∧ Gl X x ∧ (x == ("__debug__" : Str)) = false ∧ MkOk X c := by
  unfold xcOf at h
  split at h
  · rename_i hg
    obtain ⟨g1, g2⟩ := gl_ok ok hg
    exact ⟨of_decide_eq_true (List.find?_some (p := fun c => decide (x = Str.ofString c)) h), g1, g2, (ok.df hd).mks c (List.mem_of_find?_eq_some h)⟩
  · cases h
def cNms (Γ : Cn) : List Expr → Option (List String)
  | [] => some []
  | .Name x _ :: es => (match xcOf Γ x, cNms Γ es with
    | some c, some cs => some (c :: cs)
    | _, _ => none)
  | _ :: _ => none
theorem cNms_ok {X : Cx} {w : Wish} {cl : Cl} {Γ : Cn} (ok : XOk X w cl Γ) (hd : Γ.dfn = true) : ∀ {es : List Expr} {cs : List String}, cNms Γ es = some cs → NamesAll X es (cs.map fun c => .ref (xA X.K c)) ∧ ∀ c ∈ cs, XcG X.K c
  | [], cs, h => by cases h; exact ⟨.nil, by simp⟩
  | e :: es, cs, h => by
    cases e with
    | Name x p =>
      have h : (match xcOf Γ x, cNms Γ es with
        | some c, some cs => some (c :: cs)
        | _, _ => none) = some cs := h
      split at h
      · rename_i c cs' h1 h2
        cases h
        obtain ⟨e1, g1, g2, M⟩ := xcOf_ok ok hd h1
        obtain ⟨n1, n2⟩ := cNms_ok ok hd h2
        refine ⟨.cons ⟨g1, g2, .inl (by rw [e1]; exact M.mg)⟩ n1, fun u hu => ?_⟩
        rcases List.mem_cons.mp hu with rfl | hu
        · exact M.G
        · exact n2 u hu
      · cases h
    | _ => cases h
def cTst (Γ : Cn) (t : Expr) : Option (List String) := match t with
  | .Name x _ => (xcOf Γ x).map fun c => [c]
  | .Tuple es _ _ => (match cNms Γ es with
    | some cs => if cs.length ≤ 100 then some cs else none
    | none => none)
  | _ => none
theorem cTst_ok {X : Cx} {w : Wish} {cl : Cl} {Γ : Cn} (ok : XOk X w cl Γ) (hd : Γ.dfn = true) {t : Expr} {cs : List String} (h : cTst Γ t = some cs) : TestIs X t (cs.map fun c => .ref (xA X.K c)) ∧ ∀ c ∈ cs, XcG X.K c := by
  unfold cTst at h
  split at h
  · rename_i x p
    obtain ⟨c, hc, rfl⟩ := Option.map_eq_some_iff.mp h
    obtain ⟨e1, g1, g2, M⟩ := xcOf_ok ok hd hc
    exact ⟨.inl ⟨_, _, _, rfl, rfl, g1, g2, .inl (by rw [e1]; exact M.mg)⟩, fun u hu => by rw [List.mem_singleton.mp hu]; exact M.G⟩
  · rename_i es k p
    split at h
    · rename_i cs' h1
      split at h
      · rename_i hl
        cases h
        obtain ⟨n1, n2⟩ := cNms_ok ok hd h1
        exact ⟨.inr ⟨_, _, _, rfl, n1, by rw [List.length_map]; exact hl⟩, n2⟩
      · cases h
    · cases h
  · cases h
abbrev RecS := Cn → List Stmt → Option (List Stm)
def RecSOk (recS : RecS) : Prop := ∀ (Γ : Cn) (X : Cx) (w : Wish) (cl : Cl) (sts : List Stmt) (irs : List Stm), XOk X w cl Γ → PassesOwn (model X.prog X.w) X.A X.env X.xe → recS Γ sts = some irs → SS X w cl sts irs
def stepS (rec : Rec) (recS : RecS) (Γ : Cn) (st : Stmt) : Option Stm := match st with
  | .Assign [tg] e _ => cAsg rec Γ tg e
  | .AugAssign (.Name x _) op e _ => if locB Γ x then (match slot Γ x, opB op, rec Γ 0 e with
    | some i, some o, some a => if augB o then some (.aug i o a) else none
    | _, _, _ => none) else none
  | .Expr e _ => if notComp e then (rec Γ 0 e).map .expr else none
  | .Return (some e) _ => (rec Γ Γ.ret e).map .ret
  | .Return none _ => some (.ret (.lit .non))
  | .If c a b _ => (match rec Γ 0 c, recS Γ a, recS Γ b with
    | some i, some j, some k => some (.ife i j k)
    | _, _, _ => none)
  | .While c b [] _ => (match rec Γ 0 c, recS Γ b with
    | some i, some j => some (.whl i j)
    | _, _ => none)
  | .For tg it b [] _ => (match cTg Γ 8 tg, cI rec Γ tg it, recS Γ b with
    | some t, some i, some j => some (.forr t i j)
    | _, _, _ => none)
  | .Pass _ => some .pss
  | .Break _ => some .brk
  | .Continue _ => some .cnt
  | .Raise (some (.Call (.Name x _) [e] [] _)) none _ => if Γ.dfn = true ∧ notStar e = true then (match xcOf Γ x, rec Γ 0 e with
    | some c, some i => some (.rai c i)
    | _, _ => some .never) else some .never
  | .Raise .. => some .never
  | .Assert .. => some .never
  | .Try body [.ExceptHandler (some t) (some n) [.Assign [.Name g _] (.Name n2 _) _] _] [] [] _ =>
    if Γ.dfn = true ∧ n2 = n ∧ locL Γ n = true ∧ locL Γ g = true ∧ (n == ("__debug__" : Str)) = false ∧ (n == ("__classdict__" : Str)) = false then (match slot Γ n, slot Γ g, cTst Γ t, recS Γ body with
      | some i, some j, some cs, some b => if i ≠ j then some (.tryk b cs i j) else none
      | _, _, _, _ => none) else none
  | .Try .. => some .never
  | _ => none
theorem stepS_ok {rec : Rec} {recS : RecS} (hr : RecOk rec) (hs : RecSOk recS) {Γ : Cn} {X : Cx} {w : Wish} {cl : Cl} (ok : XOk X w cl Γ) (hp : PassesOwn (model X.prog X.w) X.A X.env X.xe) {st : Stmt} {ir : Stm} (h : stepS rec recS Γ st = some ir) : S1 X w cl st ir := by
  have rr : ∀ d e ir, rec Γ d e = some ir → SB X w cl e ir := fun d e ir => hr Γ X w cl d e ir ok
  have rs : ∀ sts irs, recS Γ sts = some irs → SS X w cl sts irs := fun sts irs => hs Γ X w cl sts irs ok hp
  unfold stepS at h
  split at h
  · exact cAsg_ok hr ok h
  · split at h
    · rename_i hl
      obtain ⟨l1, l2⟩ := loc_ok ok hl
      split at h
      · rename_i i o a h1 h2 h3
        split at h
        · rename_i hb
          cases h
          exact s1_aug ok.nd (slot_ok ok h1) l1 l2 (opB_ok h2) hb (rr _ _ _ h3).v
        · cases h
      · cases h
    · cases h
  · split at h
    · rename_i hn
      obtain ⟨i, hi, rfl⟩ := Option.map_eq_some_iff.mp h
      exact s1_expr (rr _ _ _ hi).v (notComp_ok hn _ _ _)
    · cases h
  · obtain ⟨i, hi, rfl⟩ := Option.map_eq_some_iff.mp h
    exact s1_ret (rr _ _ _ hi).v
  · cases h
    exact s1_retN
  · split at h
    · rename_i i j k h1 h2 h3
      cases h
      exact s1_if (rr _ _ _ h1) (rs _ _ h2) (rs _ _ h3)
    · cases h
  · split at h
    · rename_i i j h1 h2
      cases h
      exact s1_whl hp (rr _ _ _ h1) (rs _ _ h2)
    · cases h
  · split at h
    · rename_i t i j h1 h2 h3
      cases h
      obtain ⟨c1, c2⟩ := cI_ok hr ok h2
      exact s1_for hp ok.room.calm c1 ((cTg_ok ok 8).1 _ _ h1) c2 (rs _ _ h3)
    · cases h
  · cases h; exact s1_pass
  · cases h; exact s1_brk
  · cases h; exact s1_cnt
  · split at h
    · rename_i hc
      split at h
      · rename_i c i h1 h2
        cases h
        obtain ⟨e1, g1, g2, M⟩ := xcOf_ok ok hc.1 h1
        subst e1
        exact s1_rai ok.room.calm ok.tk M (ok.df hc.1).rx (passes_call ok.tk fun _ _ _ _ z => z.elim) g1 g2 hc.2 (rr _ _ _ h2).v
      · cases h; exact s1_never
    · cases h; exact s1_never
  · cases h; exact s1_never
  · cases h; exact s1_never
  · split at h
    · rename_i hc
      obtain ⟨hd, rfl, l1, l2, d1, d2⟩ := hc
      split at h
      · rename_i i j cs b h1 h2 h3 h4
        split at h
        · rename_i hij
          cases h
          obtain ⟨t1, t2⟩ := cTst_ok ok hd h3
          have df := ok.df hd
          refine s1_tryk df.hs df.hf df.hex ok.nd (slot_ok ok h1) (slot_ok ok h2) (locL_ok ok l1) (locL_ok ok l2) d1 d2 hij t1 t2 ok.tk df.rx fun W pn xe tk pa => ?_
          exact hs Γ (X.tr pn xe) ⟨W, w.rx⟩ cl _ b ⟨ok.N, ok.nd, ok.sc, ok.kind, ok.fn, ⟨ok.room.calm, ok.room.guards, ok.room.units⟩, tk, fun g hg => ⟨(ok.fns g hg).ex⟩, ok.mg, fun _ => ⟨df.hs, df.hf, df.hex, df.rx, fun c hc => ⟨(df.mks c hc).G, (df.mks c hc).mg, (df.mks c hc).fi⟩⟩⟩ pa h4
        · cases h
      · cases h
    · cases h
  · cases h; exact s1_never
  · cases h
/-- blocks -/
def cSs : Nat → RecS
  | 0, _, _ => none
  | _ + 1, _, [] => some []
  | n + 1, Γ, st :: r => match st with
    | .Expr (.Constant (.str _) _ _) _ => cSs n Γ r
    | st => (match stepS (cE 30) (cSs n) Γ st, cSs n Γ r with
      | some i, some is => some (i :: is)
      | _, _ => none)
theorem cSs_ok : ∀ n : Nat, RecSOk (cSs n)
  | 0 => fun _ _ _ _ _ _ _ _ h => by cases h
  | n + 1 => fun Γ X w cl sts irs ok hp h => by
    cases sts with
    | nil => cases h; exact ss_nil
    | cons st r =>
      unfold cSs at h
      split at h
      · exact ss_doc (cSs_ok n Γ X w cl r irs ok hp h)
      · split at h
        · rename_i i is h1 h2
          cases h
          exact ss_cons (stepS_ok (cE_ok 30) (cSs_ok n) ok hp h1) (cSs_ok n Γ X w cl r is ok hp h2)
        · cases h
end Tw
set_option Elab.async false
set_option linter.all false
set_option autoImplicit false
set_option maxRecDepth 100000
/-! TwFin: what a call hands back; defs at every level. -/
namespace Tw
open PySem PySem.Spec PyProof.Rows L2
section
variable {K : PySem.W.Frag} {m m' : Mp} {H H' : Hp} {S S1 S' : Hs}
theorem out_down (e : Ext m H m' H') {a : Ad} (h : m'.out a) : m.out a := by
  obtain ⟨t, et, _⟩ := e.grow
  exact ⟨fun q => h.1 (by rw [et]; exact List.mem_append_left _ q), fun q => h.2 (by rw [e.av]; exact q)⟩
theorem fzT_down (e : Ext m H m' H') {a : Ad} {ys : List V} (h : FzT K m' H' a ys) : FzT K m H' a ys := h.imp (fun h => ⟨h.1, out_down e h.2⟩) id
theorem fzS_down (e : Ext m H m' H') {a : Ad} {ys : List V} (h : FzS K m' H' a ys) : FzS K m H' a ys := h.imp (fun h => ⟨h.1, out_down e h.2⟩) id
theorem fzL_down (e : Ext m H m' H') {a : Ad} {ys : List V} (h : FzL m' H' a ys) : FzL m H' a ys := ⟨h.1, out_down e h.2⟩
theorem ix_down (e : Ext m H m' H') {k : Nat} {a : Ad} (hk : k < m.ix.length) (h : m'.ix[k]? = some a) : m.ix[k]? = some a := by
  obtain ⟨t, et, _⟩ := e.grow
  rw [et, List.getElem?_append_left hk] at h
  exact h
mutual
/-- what could be named before is named as before -/
theorem R.down (e : Ext m H m' H') : ∀ {x : VV} {v0 v : V}, R K m H x v0 → R K m' H' x v → R K m H' x v
  | _, _, _, .non, q => by cases q; exact .non
  | _, _, _, .bl b, q => by cases q; exact .bl b
  | _, _, _, .int i, q => by cases q; exact .int i
  | _, _, _, .str z, q => by cases q; exact .str z
  | _, _, _, .tup f r, q => by
    cases q with
    | tup f2 r2 => exact .tup (fzT_down e f2) (Rs.down e r r2)
  | _, _, _, .lst f r, q => by
    cases q with
    | lst f2 r2 => exact .lst (fzL_down e f2) (Rs.down e r r2)
  | _, _, _, .scr f r, q => by
    cases q with
    | scr f2 r2 => exact .scr (fzS_down e f2) (Rs.down e r r2)
  | _, _, _, .ref h, q => by
    cases q with
    | ref h2 => exact .ref (ix_down e (List.getElem?_eq_some_iff.mp h).1 h2)
  | _, _, _, .dct h hm d r, q => by
    cases q with
    | dct h2 hm2 d2 r2 => exact .dct h2 (out_down e hm2) d2 (Rp.down e r r2)
  | _, _, _, .exc g h hm h2 hm2 r, q => by
    cases q with
    | exc g2 k km k2 km2 r2 => exact .exc g2 k (out_down e km) k2 (out_down e km2) (R.down e r r2)
theorem Rs.down (e : Ext m H m' H') : ∀ {xs : List VV} {vs0 vs : List V}, Rs K m H xs vs0 → Rs K m' H' xs vs → Rs K m H' xs vs
  | _, _, _, .nil, q => by cases q; exact .nil
  | _, _, _, .cons r t, q => by
    cases q with
    | cons r2 t2 => exact .cons (R.down e r r2) (Rs.down e t t2)
theorem Rp.down (e : Ext m H m' H') : ∀ {xs : List (VV × VV)} {vs0 vs : List (DK × V)}, Rp K m H xs vs0 → Rp K m' H' xs vs → Rp K m H' xs vs
  | _, _, _, .nil, q => by cases q; exact .nil
  | _, _, _, .int r t, q => by
    cases q with
    | int r2 t2 => exact .int (R.down e r r2) (Rp.down e t t2)
  | _, _, _, .tup k f r t, q => by
    cases q with
    | tup k2 f2 r2 t2 => exact .tup k2 (fzT_down e f2) (R.down e r r2) (Rp.down e t t2)
end
mutual
theorem R.plain (e : Ext m H m' H') : ∀ {x : VV} {v : V}, R K m' H' x v → pur x = true → R K m H' x v
  | _, _, .non, _ => .non
  | _, _, .bl b, _ => .bl b
  | _, _, .int i, _ => .int i
  | _, _, .str z, _ => .str z
  | _, _, .tup (xs := xs) f r, h => .tup (fzT_down e f) (Rs.plain e r (by simpa [pur] using h))
  | _, _, .lst (xs := xs) f r, h => .lst (fzL_down e f) (Rs.plain e r (by simpa [pur] using h))
  | _, _, .scr (xs := xs) f r, h => .scr (fzS_down e f) (Rs.plain e r (by simpa [pur] using h))
  | _, _, .ref h, q => by cases q
  | _, _, .dct (t := t) (kvs := kvs) h hm d r, q => .dct h (out_down e hm) d (Rp.plain e r (by simpa [pur] using q))
  | _, _, .exc g h hm h2 hm2 r, q => .exc g h (out_down e hm) h2 (out_down e hm2) (R.plain e r (by simpa [pur] using q))
theorem Rs.plain (e : Ext m H m' H') : ∀ {xs : List VV} {vs : List V}, Rs K m' H' xs vs → purs xs = true → Rs K m H' xs vs
  | _, _, .nil, _ => .nil
  | _, _, .cons r t, h => by
    simp only [purs, Bool.and_eq_true] at h
    exact .cons (R.plain e r h.1) (Rs.plain e t h.2)
theorem Rp.plain (e : Ext m H m' H') : ∀ {xs : List (VV × VV)} {vs : List (DK × V)}, Rp K m' H' xs vs → purp xs = true → Rp K m H' xs vs
  | _, _, .nil, _ => .nil
  | _, _, .int r t, h => by
    simp only [purp, purq, Bool.and_eq_true] at h
    exact .int (R.plain e r h.1.2) (Rp.plain e t h.2)
  | _, _, .tup k f r t, h => by
    simp only [purp, purq, Bool.and_eq_true] at h
    exact .tup k (fzT_down e f) (R.plain e r h.1.2) (Rp.plain e t h.2)
end
/-- a dict's values, made plain -/
theorem mapO_rp {f : VV → Option VV} (e : Ext m H m' H') (h : ∀ x v y, f x = some y → R K m' H' x v → R K m H' y v) : ∀ {xs ys : List (VV × VV)} {vs : List (DK × V)}, mapO (fun p : VV × VV => (f p.2).map fun v => (p.1, v)) xs = some ys → Rp K m' H' xs vs → Rp K m H' ys vs
  | [], ys, _, q, .nil => by cases q; exact .nil
  | _ :: xs, ys, _, q, .int r t => by
    unfold mapO at q
    split at q
    · rename_i y ys' e1 e2
      cases q
      obtain ⟨v, e3, rfl⟩ := Option.map_eq_some_iff.mp e1
      exact .int (h _ _ _ e3 r) (mapO_rp e h e2 t)
    · cases q
  | _ :: xs, ys, _, q, .tup k g r t => by
    unfold mapO at q
    split at q
    · rename_i y ys' e1 e2
      cases q
      obtain ⟨v, e3, rfl⟩ := Option.map_eq_some_iff.mp e1
      exact .tup k (fzT_down e g) (h _ _ _ e3 r) (mapO_rp e h e2 t)
    · cases q
theorem mapO_rel {f : VV → Option VV} (h : ∀ x v y, f x = some y → R K m' H' x v → R K m H' y v) : ∀ {xs ys : List VV} {vs : List V}, mapO f xs = some ys → Rs K m' H' xs vs → Rs K m H' ys vs
  | [], _, _, e, .nil => by cases e; exact .nil
  | x :: xs, ys, _, e, .cons r t => by
    unfold mapO at e
    split at e
    · rename_i y ys' e1 e2
      cases e
      exact .cons (h _ _ _ e1 r) (mapO_rel h e2 t)
    · cases e
theorem frz_ok (e : Ext m H m' H') (h1 : SimH K m' H' S1) : ∀ (n : Nat) (x y : VV) (v : V), frz n m.ix.length S1 x = some y → R K m' H' x v → R K m H' y v := by
  have plain : ∀ (x y : VV) (v : V), (if pur x then some x else none) = some y → R K m' H' x v → R K m H' y v := fun x y v q r => by
    split at q
    · rename_i hp
      cases q
      exact r.plain e hp
    · cases q
  intro n
  induction n with
  | zero => intro x y v q r; exact plain x y v (by cases x <;> exact q) r
  | succ n ih =>
    intro x y v q r
    cases x with
    | ref k =>
      have q : (if k < m.ix.length then some (VV.ref k) else match S1[k]? with
        | some (.lst xs) => (mapO (frz n m.ix.length S1) xs).map .lst
        | some (.dct t kvs) => (mapO (fun p => (frz n m.ix.length S1 p.2).map fun v => (p.1, v)) kvs).map (.dct t)
        | _ => none) = some y := q
      split at q
      · rename_i hk
        cases q
        cases r with
        | ref h2 => exact .ref (ix_down e hk h2)
      · rename_i hk
        have out : ∀ a, m'.ix[k]? = some a → m.out a := fun a h2 => ⟨fun q => by
          obtain ⟨t, et, _⟩ := e.grow
          obtain ⟨j, hj⟩ := List.mem_iff_getElem?.mp q
          have hjl := (List.getElem?_eq_some_iff.mp hj).1
          have hj2 : m'.ix[j]? = some a := by rw [et, List.getElem?_append_left hjl]; exact hj
          obtain ⟨l1, e1⟩ := List.getElem?_eq_some_iff.mp hj2
          obtain ⟨l2, e2⟩ := List.getElem?_eq_some_iff.mp h2
          have : j = k := (List.getElem_inj h1.nd).mp (e1.trans e2.symm)
          omega, fun q => (h1.apart a (by rw [e.av]; exact q)).1 (List.mem_of_getElem? h2)⟩
        split at q
        · rename_i xs es
          obtain ⟨ys, e1, rfl⟩ := Option.map_eq_some_iff.mp q
          cases r with
          | ref h2 =>
            rename_i a
            obtain ⟨us, h3, h4⟩ := h1.obj k _ a es h2
            exact .lst ⟨h3, out a h2⟩ (mapO_rel (fun x v y => ih x y v) e1 h4)
        · rename_i t kvs es
          obtain ⟨ys, e1, rfl⟩ := Option.map_eq_some_iff.mp q
          cases r with
          | ref h2 =>
            rename_i a
            obtain ⟨us, o, h3, h5, h4⟩ := h1.obj k _ a es h2
            exact .dct h3 (out a h2) h5 (mapO_rp e (fun x v y => ih x y v) e1 h4)
        · cases q
    | dct t kvs =>
      have q : (mapO (fun p : VV × VV => (frz n m.ix.length S1 p.2).map fun v => (p.1, v)) kvs).map (VV.dct t) = some y := q
      obtain ⟨ys, e1, rfl⟩ := Option.map_eq_some_iff.mp q
      cases r with
      | dct h2 hm d r => exact .dct h2 (out_down e hm) d (mapO_rp e (fun x v y => ih x y v) e1 r)
    | tup xs =>
      have q : (mapO (frz n m.ix.length S1) xs).map VV.tup = some y := q
      obtain ⟨ys, e1, rfl⟩ := Option.map_eq_some_iff.mp q
      cases r with
      | tup f t => exact .tup (fzT_down e f) (mapO_rel (fun x v y => ih x y v) e1 t)
    | lst xs =>
      have q : (mapO (frz n m.ix.length S1) xs).map VV.lst = some y := q
      obtain ⟨ys, e1, rfl⟩ := Option.map_eq_some_iff.mp q
      cases r with
      | lst f t => exact .lst (fzL_down e f) (mapO_rel (fun x v y => ih x y v) e1 t)
    | _ => exact plain _ y v q r
theorem take_ok (e : Ext m H m' H') (h0 : SimH K m H S) (h1 : SimH K m' H' S1) (st : Stays S S1) : SimH K m H' (S1.take S.length) ∧ Ext m H m H' := by
  obtain ⟨t, et, _⟩ := e.grow
  refine ⟨⟨?_, h0.nd, fun k o a hk ha => ?_, fun a ha => ⟨(h0.apart a ha).1, e.live a (h0.apart a ha).2⟩⟩, ⟨e.keep, e.live, rfl, [], by simp, by simp⟩⟩
  · rw [List.length_take, h0.len, Nat.min_eq_left st.1]
  · have hlt : k < S.length := by rw [← h0.len]; exact (List.getElem?_eq_some_iff.mp ha).1
    rw [List.getElem?_take_of_lt hlt] at hk
    have ha' : m'.ix[k]? = some a := by rw [et, List.getElem?_append_left (by rw [h0.len]; exact hlt)]; exact ha
    have q1 := h1.obj k o a hk ha'
    rcases st.2 k hlt with s | ⟨xs, s, hp⟩
    · have q0 := h0.obj k o a (by rw [← s]; exact hk) ha
      cases o with
      | lst xs =>
        obtain ⟨ys, h3, h4⟩ := q1
        obtain ⟨ys0, _, h5⟩ := q0
        exact ⟨ys, h3, Rs.down e h5 h4⟩
      | dct _ _ =>
        obtain ⟨ys, o, h3, h6, h4⟩ := q1
        obtain ⟨ys0, _, _, _, h5⟩ := q0
        exact ⟨ys, o, h3, h6, Rp.down e h5 h4⟩
      | obj _ _ => exact q1.elim
    · rw [s] at hk
      cases hk
      obtain ⟨ys, h3, h4⟩ := q1
      exact ⟨ys, h3, h4.plain e hp⟩
theorem fin_ok {keep : Bool} {x y : VV} {v : V} (q : fin keep S x S1 = .ok y S') (e : Ext m H m' H') (h0 : SimH K m H S) (h1 : SimH K m' H' S1) (r : R K m' H' x v) : ∃ m2, Ext m H m2 H' ∧ SimH K m2 H' S' ∧ R K m2 H' y v := by
  unfold fin at q
  split at q
  · cases q
    exact ⟨m', e, h1, r⟩
  · split at q
    · rename_i st
      obtain ⟨t1, t2⟩ := take_ok e h0 h1 st
      split at q
      · rename_i hp
        cases q
        exact ⟨m, t2, t1, r.plain e hp⟩
      · split at q
        · rename_i y' hf
          cases q
          rw [← h0.len] at hf
          exact ⟨m, t2, t1, frz_ok e h1 6 x _ v hf r⟩
        · cases q
    · cases q
/-- an error's dict is no object of ours -/
theorem SimH.out_xd {d : Ad} {fs : List (Str × V)} (h : SimH K m' H' S1) (e : H' d = some (.xd fs)) (hv : d ∉ m'.av) : m'.out d := by
  refine ⟨fun q => ?_, hv⟩
  obtain ⟨k, hk⟩ := List.mem_iff_getElem?.mp q
  have hl : k < S1.length := by rw [← h.len]; exact (List.getElem?_eq_some_iff.mp hk).1
  have z := h.obj k _ d (List.getElem?_eq_getElem hl) hk
  cases ob : S1[k] with
  | lst xs =>
    rw [ob] at z
    obtain ⟨ys, h1, _⟩ := z
    rw [e] at h1
    cases h1
  | dct t kvs =>
    rw [ob] at z
    obtain ⟨ys, o, h1, hd, _⟩ := z
    rw [e] at h1
    cases h1
    rcases hd with ⟨_, ps, _, hd⟩ | ⟨_, ps, _, hd⟩
    · cases hd
    · unfold dicO at hd
      cases hd
  | obj c fs =>
    rw [ob] at z
    exact z.elim
end
end Tw
set_option Elab.async false
set_option linter.all false
set_option autoImplicit false
set_option maxRecDepth 100000
/-! TwTop: the defs of a law, at every level; the law's end. -/
namespace Tw
open PySem PySem.Spec PyProof.Rows L2
/-- a def with what the compiler is told of it -/
structure Df where
  d : He.DefD
  sg : Sg
  N : List Str
  muts : List (Str × Nat)
  ret : Nat
def Df.cn (sgs : List Sg) (xs : List String) (f : Df) : Cn := ⟨f.N, f.d.scope, fun _ => true, sgs, f.muts, f.ret, xs, true⟩
/-- an own class with its __init__ -/
structure Xd where
  c : String
  d : He.DefD
def Xd.good (x : Xd) : Bool := decide (x.d.at_ = (Str.ofString x.c, some ("__init__" : Str))) && x.d.dfl.isEmpty && x.d.kwd.isEmpty && iniP x.c x.d.params && iniS x.c x.d.scope && iniT x.c x.d.body && decide (Str.ofString (xB x.c).B ∈ biNm)
/-- what is looked at of a class -/
def xdB (K : PySem.W.Frag) (c : String) : Bool := xcB K c && decide (PySem.W.nsIn K mainGlobals (Str.ofString c) = some (some (.ref (xA K c)))) &&
  decide (PySem.W.findIn K (.ref (xA K c)) "__init__" = some (some (.ref (He.ma K (xA K c) "__init__")))) && decide (PySem.W.typeIn K (.ref (He.ma K (xA K c) "__init__")) = some (.type "function"))
def nodupB : List Str → Bool
  | [] => true
  | x :: xs => !xs.contains x && nodupB xs
theorem nodupB_ok : ∀ {l : List Str}, nodupB l = true → l.Nodup
  | [], _ => List.nodup_nil
  | x :: xs, h => by
    simp only [nodupB, Bool.and_eq_true, Bool.not_eq_true'] at h
    refine List.nodup_cons.mpr ⟨fun q => ?_, nodupB_ok h.2⟩
    have := h.1
    rw [List.contains_iff_mem.mpr q] at this
    cases this
def scB (N ps : List Str) (sc : Scope) : Bool :=
  (match sc.kind with
    | .function => true
    | _ => false) && !sc.isCoroutine && !sc.isGenerator && nodupB N && decide (N.take ps.length = ps) &&
  (ps.all fun x => match sc.names.lookup x with
    | some .local => true
    | some .cell => true
    | _ => false) && sc.names.all fun y => match y.2 with
    | .free => false
    | _ => true
theorem scB_ok {N ps : List Str} {sc : Scope} (h : scB N ps sc = true) : FnScope N ps sc := by
  unfold scB at h
  simp only [Bool.and_eq_true, Bool.not_eq_true', decide_eq_true_eq] at h
  obtain ⟨⟨⟨⟨⟨⟨h1, h2⟩, h3⟩, h4⟩, h5⟩, h6⟩, h7⟩ := h
  refine ⟨?_, h2, h3, nodupB_ok h4, h5, fun x hx => ?_, fun y hy e => ?_⟩
  · split at h1
    · assumption
    · cases h1
  · have q := List.all_eq_true.mp h6 x hx
    split at q
    · exact .inl (by assumption)
    · exact .inr (by assumption)
    · cases q
  · have q := List.all_eq_true.mp h7 y hy
    rw [e] at q
    cases q
def Df.good (f : Df) : Bool := decide (f.d.at_ = (f.sg.nm, none)) && f.d.dfl.isEmpty && f.d.kwd.isEmpty && f.d.params.posonlyargs.isEmpty && f.d.params.vararg.isNone && f.d.params.kwonlyargs.isEmpty && f.d.params.kwarg.isNone &&
  decide (f.d.params.args.map (·.arg) = f.sg.ps) && scB f.N f.sg.ps f.d.scope
section
variable {P : Program} {w : World} {K : PySem.W.Frag} {mg : Str → Option Value} {base : Heap} {fs : List Df} {Pm : Pg}
theorem fdOk_of {f : Df} (hg : f.good = true) {fd : FuncData} (F : FunD K f.d.name f.d.qual f.d.params f.d.body f.d.scope (f.d.dvs K) (f.d.kws K) (He.fAd K f.d.at_) fd) : FdOk fd f.sg.ps := by
  unfold Df.good at hg
  simp only [Bool.and_eq_true, decide_eq_true_eq, List.isEmpty_iff, Option.isNone_iff_eq_none] at hg
  obtain ⟨⟨⟨⟨⟨⟨⟨⟨h1, h2⟩, h3⟩, h4⟩, h5⟩, h6⟩, h7⟩, h8⟩, h9⟩ := hg
  obtain ⟨oc, od, dV, kV, doc, pm, an, cdv, ct, osl, rfl, lk, hcd, hD, hK⟩ := F.ex
  obtain ⟨d, sg, N, muts, ret⟩ := f
  obtain ⟨at_, name, qual, params, body, scope, dfl, kwd⟩ := d
  obtain ⟨po, as, va, ko, kd, ka, df⟩ := params
  dsimp only at h1 h2 h3 h4 h5 h6 h7 h8 h9
  subst h2 h4 h5 h6 h7
  have hdv : dV = .none := by
    rcases hD with ⟨_, q⟩ | ⟨q, _⟩
    · exact q
    · exact absurd rfl q
  subst hdv
  exact ⟨_, _, as, kd, df, _, _, kV, doc, pm, an, cdv, ct, rfl, h8⟩
theorem fdOk_x {x : Xd} (hg : x.good = true) {fd : FuncData} (F : FunD K x.d.name x.d.qual x.d.params x.d.body x.d.scope (x.d.dvs K) (x.d.kws K) (He.fAd K x.d.at_) fd) : FdOk fd ["self", xF x.c] := by
  unfold Xd.good iniP at hg
  simp only [Bool.and_eq_true, decide_eq_true_eq, List.isEmpty_iff, Option.isNone_iff_eq_none] at hg
  obtain ⟨⟨⟨⟨⟨⟨h1, h2⟩, h3⟩, h4, h5, h6, h7, h8, h9⟩, _⟩, _⟩, _⟩ := hg
  obtain ⟨oc, od, dV, kV, doc, pm, an, cdv, ct, osl, rfl, lk, hcd, hD, hK⟩ := F.ex
  obtain ⟨c, at_, name, qual, params, body, scope, dfl, kwd⟩ := x
  obtain ⟨po, as, va, ko, kd, ka, df⟩ := params
  dsimp only at h1 h2 h3 h4 h5 h6 h7 h8 h9
  subst h2 h4 h5 h6 h7
  have hdv : dV = .none := by
    rcases hD with ⟨_, q⟩ | ⟨q, _⟩
    · exact q
    · exact absurd rfl q
  subst hdv
  exact ⟨_, _, as, kd, df, _, _, kV, doc, pm, an, cdv, ct, rfl, h9⟩
/-- what stands of the defs -/
structure Defs (P : Program) (w : World) (K : PySem.W.Frag) (mg : Str → Option Value) (fs : List Df) (xs : List Xd) (Pm : Pg) : Prop where
  good : ∀ f ∈ fs, f.good = true
  body : ∀ f ∈ fs, ∃ b, cSs 300 (f.cn (fs.map (·.sg)) (xs.map (·.c))) f.d.body = some b ∧ Pm f.sg.id = some ⟨f.sg.ps.length, f.N.length, b⟩
  obj : ∀ f ∈ fs, ∃ fd, FunD K f.d.name f.d.qual f.d.params f.d.body f.d.scope (f.d.dvs K) (f.d.kws K) (He.fAd K f.d.at_) fd
  glo : ∀ f ∈ fs, mg f.sg.nm = some (.ref (He.fAd K f.d.at_))
  free : ∀ x ∈ biNm, mg x = none
  xgood : ∀ x ∈ xs, x.good = true
  xobj : ∀ x ∈ xs, ∃ fd, FunD K x.d.name x.d.qual x.d.params x.d.body x.d.scope (x.d.dvs K) (x.d.kws K) (He.fAd K x.d.at_) fd
  xglo : ∀ x ∈ xs, mg (Str.ofString x.c) = some (.ref (xA K x.c))
  xok : ∀ x ∈ xs, xdB K x.c = true
theorem hg_at {x : Xd} (h : x.good = true) : x.d.at_ = (Str.ofString x.c, some ("__init__" : Str)) := by
  unfold Xd.good at h
  simp only [Bool.and_eq_true, decide_eq_true_eq] at h
  exact h.1.1.1.1.1.1
theorem mk_of_defs {xs : List Xd} (st : Defs P w K mg fs xs Pm) {X : Cx} (hP : X.prog = P) (hw : X.w = w) (hK : X.K = K) (hm : X.mg = mg) (hr : Room 2 X.A) : ∀ c ∈ xs.map (·.c), MkOk X c := by
  subst hP hw hK hm
  intro c hc
  obtain ⟨x, hx, rfl⟩ := List.mem_map.mp hc
  have ok := st.xok x hx
  unfold xdB at ok
  simp only [Bool.and_eq_true, decide_eq_true_eq] at ok
  obtain ⟨⟨⟨o1, o2⟩, o3⟩, o4⟩ := ok
  have G := xcB_ok o1
  obtain ⟨fd, F⟩ := st.xobj x hx
  have hg := st.xgood x hx
  have FD := fdOk_x hg F
  unfold Xd.good at hg
  simp only [Bool.and_eq_true, decide_eq_true_eq] at hg
  obtain ⟨⟨⟨_, h4⟩, h5⟩, h6⟩ := hg
  have ha := hg_at (x := x) (st.xgood x hx)
  have eA : He.fAd X.K x.d.at_ = He.ma X.K (xA X.K x.c) "__init__" := by rw [ha]; rfl
  rw [eA] at F
  refine ⟨G, st.xglo x hx, _, fd, 1, o3, o4, ini_fn (k := 0) G F h4 h5 (st.free _ h6), hr, fun s us _ hl => ?_⟩
  rw [List.append_nil] at hl ⊢
  have hl2 : us.length = 2 := hl
  have e := binds_kw (s := s) (us := us) (ws := []) (ks := []) (perm := [0, 1]) FD (by
    unfold permOf
    rw [hl2]
    have ne : ("self" : Str) ≠ xF x.c := by
      unfold iniS at h4
      simp only [Bool.and_eq_true, decide_eq_true_eq] at h4
      exact h4.2.2.2.2.1
    have ne2 : xF x.c ≠ ("self" : Str) := Ne.symm ne
    rw [if_pos (by simp [ne, ne2])]
    have b1 : (("self" : Str) == xF x.c) = false := beq_eq_false_iff_ne.mpr ne
    simp [List.idxOf, List.findIdx, List.findIdx.go, b1]) rfl
  rw [List.append_nil] at e
  rw [show pick [0, 1] us = us from by
    match us, hl2 with
    | [a, b], _ => rfl] at e
  exact e
theorem sp_len {cl : Cl} {id : String} {ar : Nat} (vs : List V) (H : Hp) (Q : VK) (E : XK) (h : spIR K (rxT K) cl id ar vs H Q E) : vs.length = ar := by
  obtain ⟨keep, m, S, xs, h1, h2, h3, h4⟩ := h
  rw [← h3.length, h1]
theorem start_sim {m : Mp} {H : Hp} {xs : List VV} {vs : List V} (N : List Str) (r : Rs K m H xs vs) : SimE K m H (xs.map some ++ List.replicate (N.length - xs.length) none) (L2.start N vs) := by
  refine ⟨by simp [L2.start, r.length], fun i x h => ?_⟩
  unfold L2.start
  by_cases hi : i < xs.length
  · rw [List.getElem?_append_left (by simpa using hi), List.getElem?_map] at h
    obtain ⟨y, hy, e⟩ := Option.map_eq_some_iff.mp h
    cases e
    obtain ⟨v, hv, rv⟩ := r.get hy
    refine ⟨v, ?_, rv⟩
    rw [List.getElem?_append_left (by rw [List.length_map, ← r.length]; exact hi), List.getElem?_map, hv]
    rfl
  · rw [List.getElem?_append_right (by simpa using hi)] at h
    have := List.mem_of_getElem? h
    rw [List.mem_replicate] at this
    cases this.2
theorem all_fn {xs : List Xd} (st : Defs P w K mg fs xs Pm) : ∀ (k : Nat) (f : Df), f ∈ fs → ∀ fd, FunD K f.d.name f.d.qual f.d.params f.d.body f.d.scope (f.d.dvs K) (f.d.kws K) (He.fAd K f.d.at_) fd → FnG P w K mg base (L2.CX P w) (k + 2) (He.fAd K f.d.at_) fd f.sg.ps (spIR K (rxT K) (callF Pm k) f.sg.id f.sg.ps.length) := by
  intro k
  induction k with
  | zero =>
    intro f hf fd F
    refine ⟨sp_len, fun A outer s H args us vs Q E hr hg e0 hb r h => ?_⟩
    obtain ⟨keep, m, S, xs, h1, h2, h3, h4⟩ := h
    exact h4.elim
  | succ k ih =>
    intro f hf fd F
    obtain ⟨b, hb, hP⟩ := st.body f hf
    have hgood := st.good f hf
    have S : FnScope f.N f.sg.ps f.d.scope := by
      unfold Df.good at hgood
      simp only [Bool.and_eq_true] at hgood
      exact scB_ok hgood.2
    obtain ⟨oc, od, dV, kV, doc, pm, an, cdv, ct, osl, rfl, lk, hcd, hD, hK⟩ := F.ex
    refine fnG_of lk hcd S sp_len fun A outer s H vs Q E hr hg hsp => ⟨rdS K ⟨fun c d _ H' => E c d H', (rxT K)⟩ (exs (callF Pm k) b), ?_, ?_⟩
    · refine cSs_ok 300 (f.cn (fs.map (·.sg)) (xs.map (·.c))) (cxOf (L2.CX P w) P w K mg base f.N f.d.qual f.d.scope (He.fAd K f.d.at_) cdv A outer s H E) _ (callF Pm k) f.d.body b ⟨rfl, S.nd, rfl, S.kind, fun _ _ => rfl, ⟨rfl, hg, ?_⟩, ?_, fun g hgm => ?_, st.free, fun _ => ⟨rfl, rfl, rfl, rfl, ?_⟩⟩ ?_ hb
      · have := hr.un
        show (A.deeper (envOfC f.d.qual f.d.scope s.heap.objs.size (He.fAd K f.d.at_) cdv)).units + 100 < cLine
        omega
      · exact takes_of rfl rfl rfl rfl
      · obtain ⟨f2, hf2, rfl⟩ := List.mem_map.mp hgm
        obtain ⟨fd2, F2⟩ := st.obj f2 hf2
        exact ⟨k + 2, _, fd2, ih f2 hf2 fd2 F2, fdOk_of (st.good f2 hf2) F2, hr, st.glo f2 hf2, F2.kp⟩
      · exact mk_of_defs st rfl rfl rfl rfl (hr.mono (by omega))
      · exact passes_of (X := cxOf (L2.CX P w) P w K mg base f.N f.d.qual f.d.scope (He.fAd K f.d.at_) cdv A outer s H E) rfl
    · obtain ⟨keep, m, S0, xs, h1, h2, h3, h4⟩ := hsp
      have e := callF_run (n := k) (keep := keep) (s := S0) hP h1
      rw [← h1] at e
      rw [e] at h4
      cases er : exs (callF Pm k) b (xs.map some ++ List.replicate (f.N.length - xs.length) none) S0 with
      | bad => rw [er] at h4; exact h4.elim
      | exc v s => exact absurd er (exs_noX _ _ _ _ _)
      | ok r S1 =>
        rw [er] at h4
        refine ⟨m, _, S0, r, S1, ⟨h2, start_sim f.N h3⟩, er, ?_⟩
        have fine : ∀ {y : VV}, Res K ⟨fun c d _ H' => E c d H', (rxT K)⟩ m H [] (fin keep S0 y S1) (fun x S' => Post K m H x S' Q) → ∀ m' H' u, Ext m H m' H' → SimH K m' H' S1 → R K m' H' y u → Q u H' := fun {y} q m' H' u x1 s1 r1 => by
          cases ef : fin keep S0 y S1 with
          | bad => rw [ef] at q; exact q.elim
          | exc z s =>
            unfold fin at ef
            repeat' split at ef
            all_goals cases ef
          | ok z S2 =>
            rw [ef] at q
            obtain ⟨m2, x2, s2, r2⟩ := fin_ok ef x1 h2 s1 r1
            exact q m2 H' u x2 s2 r2
        cases r with
        | nx σ => exact fun m' H' σ' x1 s1 => fine h4 m' H' .non x1 s1.h .non
        | rt v => exact fun m' H' u x1 s1 r1 => fine h4 m' H' u x1 s1 r1
        | bk σ => exact h4.elim
        | ct σ => exact h4.elim
        | xc v σ =>
          intro m' H' σ' c d x1 s1 z
          obtain ⟨c, x, dd, y, rfl, G, rfl, rfl, hd, hm, rxy⟩ := z
          have h4 : Res K ⟨fun c d _ H' => E c d H', (rxT K)⟩ m H [] ((fin keep S0 x S1).bind fun v s => .exc (.exc c v) s) _ := h4
          cases ef : fin keep S0 x S1 with
          | bad => rw [ef] at h4; exact h4.elim
          | exc z s =>
            unfold fin at ef
            repeat' split at ef
            all_goals cases ef
          | ok z S2 =>
            rw [ef] at h4
            obtain ⟨m2, x2, s2, r2⟩ := fin_ok ef x1 h2 s1.h rxy
            exact h4 m2 H' _ _ x2 s2 ⟨c, z, dd, y, rfl, G, rfl, rfl, hd, s2.out_xd hd (by rw [x2.av, ← x1.av]; exact hm.2), r2⟩
end
/-- the law's own call, where its def keeps a promise by levels -/
theorem call_true {P : Program} {w : World} {K : PySem.W.Frag} {mg mb : Str → Option Value} {k : Nat} {fa a : Addr} {fd : FuncData} {x : Str} {sp : Sp} {st : Shared} {its : List Value} {zs : List Int}
    (kin : K.In st.heap) (gns : st.heap.Ns mainGlobals mg) (bns : st.heap.Ns builtinsNs mb) (bbt : ∀ x : Str, x ≠ "__name__" → mb x = bootBuiltins x) (nol : st.heap.NoLimit) (gen : st.gens = #[])
    (obj : st.heap.get? a = some { cls := .type "list", data := .seq its.toArray }) (ia : IntsAre its zs) (len : zs.length ≤ sizeLine) (room : Room k callerA)
    (F : ∀ base : Heap, K.In base → base.Ns mainGlobals mg → FnG P w K mg base (L2.CX P w) k fa fd [x] sp) (bind : ∀ (s : Shared) (u : Value), BindsTo s fd ⟨[u], []⟩ [(x, u)])
    (hsp : ∀ H : Hp, SqL K H a (zs.map V.int) → sp [.ref a] H (fun v _ => v = .bl true) fun _ _ _ => False) :
    codeAny (model P w) callerA (.call (.ref fa) ⟨[.ref a], []⟩) (fun r s' => r = .ok (.ret (.bool true)) ∧ OldK st.heap s'.heap ∧ s'.os = st.os ∧ AllBare s'.gens) st := by
  have vz := vals_ints ia
  have lz := ia.length
  -- H tracks at most the script
  have run : ∀ H : Hp, Only H → SqL K H a (zs.map V.int) → HOk P w H st.heap → (∀ c, H c ≠ none → c = a) → (H a ≠ none → K.lookup a = none) →
      codeAny (model P w) callerA (.call (.ref fa) ⟨[.ref a], []⟩) (fun r s' => r = .ok (.ret (.bool true)) ∧ OldK st.heap s'.heap ∧ s'.os = st.os ∧ AllBare s'.gens) st := by
    intro H only sq hok at_a ka
    have none_of : ∀ {c : Addr} {u : Obj}, st.heap.get? c = some u → (c = a → u.data ≠ .seq its.toArray 0) → H c = none := fun {c u} e ne => by
      cases q : H c with
      | none => rfl
      | some z =>
        have ca : c = a := at_a c (by rw [q]; simp)
        rw [ca, obj] at e
        cases e
        exact absurd rfl (ne ca)
    have ns_of : ∀ {c : Addr} {m : Str → Option Value}, st.heap.Ns c m → (hidT st.heap H).Ns c m := fun {c m} ⟨u, es, ep, e, d, r⟩ =>
      ⟨u, es, ep, hidT_get e (none_of e fun _ z => by rw [d] at z; cases z), d, r⟩
    have kinB : K.In (hidT st.heap H) := fun c u e => hidT_get (kin c u e) (by
      cases q : H c with
      | none => rfl
      | some z =>
        have ca : c = a := at_a c (by rw [q]; simp)
        subst ca
        rw [ka (by rw [q]; simp)] at e
        cases e)
    obtain ⟨mc, n1, n2⟩ := nol
    have md : Mod K mg (hidT st.heap H) := ⟨kinB, ns_of gns, ⟨mb, ns_of bns, bbt⟩, mc, ns_of n1, n2⟩
    have env : Env0 P w K mg (hidT st.heap H) callerA [] st H :=
      ⟨rfl, md, fun c u e => of_hidT e, Nat.le_of_eq (hidT_size _ _), trivial, fun c hc => (List.not_mem_nil hc).elim, hok, .of_eq gen⟩
    have go := (F _ kinB (ns_of gns)).run callerA [] st H ⟨[.ref a], []⟩ [.ref a] [.ref a] _ _ room rfl env (bind st (.ref a)) (.cons rfl .nil) (hsp H sq)
    refine codeAny_mono go ?_
    intro r s' h
    match r, h with
    | .error e, h =>
      obtain ⟨_, _, _, _, _, _, _, _, _, _, _, _, z⟩ := (show L2.CX P w [] H st (fun _ _ _ => False) e s' from h)
      exact z.elim
    | .ok .next, h => exact False.elim h
    | .ok .brk, h => exact False.elim h
    | .ok .cont, h => exact False.elim h
    | .ok (.ret u), h =>
      obtain ⟨v, H2, h1, h2, un, hok2, rv, qv⟩ := h
      have qv : v = .bl true := qv
      rw [qv] at rv
      obtain rfl : u = Value.bool true := rv
      refine ⟨rfl, OldK.of_keep fun c u e => ?_, h1, h2⟩
      rcases only c with z | ⟨ob, xs, z⟩
      · exact un.keep c u e z (fun y => (List.not_mem_nil (show c ∈ ([] : List Addr) from y)).elim) (by simp)
      · obtain ⟨e1, _⟩ := hok c _ z
        obtain ⟨e2, _⟩ := hok2 c _ (un.frzs c ob _ z)
        rw [e] at e1
        cases e1
        exact e2
  cases hk : K.lookup a with
  | some u =>
    have e := kin a u hk
    rw [obj] at e
    cases e
    exact run (fun _ => none) (fun _ => .inl rfl) (.inr ⟨_, its.toArray, _, hk, rfl, rfl, rfl, by rw [List.size_toArray, lz]; exact len, by simpa using vz⟩) (fun c u z => by
      have z : (none : Option HO) = some u := z
      cases z) (fun c z => absurd rfl z) fun z => absurd rfl z
  | none =>
    obtain ⟨H, hH⟩ : ∃ H : Hp, H = fun c => if c = a then some (.frz { cls := .type "list", data := .seq its.toArray } (.lst (zs.map V.int))) else none := ⟨_, rfl⟩
    have at_a : H a = some (.frz { cls := .type "list", data := .seq its.toArray } (.lst (zs.map V.int))) := by rw [hH]; exact if_pos rfl
    have off : ∀ c, c ≠ a → H c = none := fun c hc => by rw [hH]; exact if_neg hc
    refine run H (fun c => ?_) (.inl (.inr ⟨_, at_a⟩)) (fun c u z => ?_) (fun c z => Classical.byContradiction fun hc => z (off c hc)) fun _ => hk
    · by_cases hc : c = a
      · rw [hc, at_a]
        exact .inr ⟨_, _, rfl⟩
      · exact .inl (off c hc)
    · by_cases hc : c = a
      · subst hc
        rw [at_a] at z
        cases z
        exact ⟨obj, by rw [List.length_map]; exact len, its, _, vz, obj⟩
      · rw [off c hc] at z
        cases z
/-- THE LAW: what the interpreter says of every script holds of the program -/
theorem law_walk {l : PySem.W.OpenLaw} {n k : Nat} {q : Program} {loose : List Str} {XP : (Str → Option Value) → Heap → Prop} {YP : World → Heap → Prop} {d : DefRec} {x : Str} {Pm : Pg} {id : String}
    (hn : l.most = some n) (hn2 : n ≤ sizeLine) (hdf : d.params.defaults = []) (hr : Room (k + 2) callerA)
    (F : ∀ (w : World) (mg : Str → Option Value) (fa : Addr) (h : Heap), YP w h → h.Ns mainGlobals mg → mg d.name = some (.ref fa) →
      ∃ (K : PySem.W.Frag) (fd : FuncData), K.In h ∧ (∀ (s : Shared) (u : Value), BindsTo s fd ⟨[u], []⟩ [(x, u)]) ∧
        ∀ base : Heap, K.In base → base.Ns mainGlobals mg → FnG l.prog w K mg base (L2.CX l.prog w) (k + 2) fa fd [x] (spIR K (rxT K) (callF Pm k) id 1))
    (say : ∀ zs : List Int, zs.length ≤ n → ∃ S, callF Pm k false id [.scr (zs.map .int)] [] = .ok (.bl true) S) : PySem.W.WalkO q loose XP YP l.row.toRowW d [] (fun f vs => PySem.call f vs) := by
  refine Att.attach_call hn hdf fun w s₀ st mg mb fa o pm cd doc a its zs G Y ho hd hcd hmg obj ia hlen hg => ?_
  obtain ⟨K, fd, kin, hb, hF⟩ := F w mg fa _ Y G.T.g hmg
  refine call_true kin G.T.g G.T.b G.T.builtins G.T.nolimit hg obj ia (Nat.le_trans hlen hn2) hr hF hb fun H sq => ?_
  obtain ⟨S, e⟩ := say zs hlen
  refine ⟨false, ⟨[], []⟩, [], [.scr (zs.map .int)], rfl, ⟨rfl, List.nodup_nil, fun k o a (h : ([] : Hs)[k]? = some o) _ => by simp at h, fun a h => (List.not_mem_nil h).elim⟩, .cons (.scr ?_ Rs.of_ints) .nil, ?_⟩
  · rcases sq with h | h
    · exact .inl ⟨h, fun z => List.not_mem_nil z, fun z => List.not_mem_nil z⟩
    · exact .inr (.inr h)
  · rw [e]
    intro m' H' v x1 s1 r1
    cases r1
    rfl
end Tw
set_option Elab.async false
set_option linter.all false
set_option autoImplicit false
set_option maxRecDepth 100000
/-! TwHead: what stands of the defs and of the errors' classes, from the head's facts. -/
namespace Tw
open PySem PySem.Spec PyProof.Rows L2
def fasOf (fs : List Df) : List He.Fa := fs.map (fun f => He.Fa.glo f.sg.nm) ++ biNm.map He.Fa.free
def fdsOf (fs : List Df) (xs : List Xd) : List He.DefD := fs.map (·.d) ++ xs.map (·.d)
/-- a class's own __init__, written first in it -/
def clsInit (st : Stmt) : Stmt := match st with
  | .ClassDef _ _ _ (s :: _) _ _ _ _ _ _ _ => s
  | s => s
/-! ### the head's look: the kit's, and the classes -/
abbrev AlX : Type := Bool × He.AlD
def lookX (cs : List String) (fa : List He.Fa) (fn : List He.DefD) (K : PySem.W.Frag) : AlX := (cs.all fun c => xdB K c, He.obsD fa fn K)
def lookG (n : Nat) (cs : List String) (fa : List He.Fa) (fn : List He.DefD) (g : Addr → Option Obj) : AlX := lookX cs fa fn (He.frG g (He.asD g n))
def hookX (n : Nat) (cs : List String) (fa : List He.Fa) (fn : List He.DefD) : PySem.W.Hook where
  α := AlX
  obs := fun s => lookG n cs fa fn s.heap.get?
  val := fun _ => (true, He.valD fn)
  says := fun _ h => ∃ K : PySem.W.Frag, K.In h ∧ (∀ c ∈ cs, xdB K c = true) ∧ He.SaysD fa fn K
  of := fun _ _ e => by
    obtain ⟨e1, e2⟩ := Prod.mk.inj (show ((cs.all fun c => xdB _ c), He.obsD fa fn _) = (true, He.valD fn) from e)
    exact ⟨_, He.frG_in, List.all_eq_true.mp e1, e2⟩
  keeps := fun _ _ _ ⟨K, hK, c1, c2⟩ k => ⟨K, PySem.W.Frag.In.keeps hK k, c1, c2⟩
theorem lookG_eq {n : Nat} {cs : List String} {fa : List He.Fa} {fn : List He.DefD} {g : Addr → Option Obj} {s : Shared} (h : ∀ a, g a = s.heap.get? a) : lookG n cs fa fn g = (hookX n cs fa fn).obs s := by
  rw [show g = s.heap.get? from funext h]
  rfl
theorem defs_of {P : Program} {w : World} {K : PySem.W.Frag} {h : Heap} {mg : Str → Option Value} {fs : List Df} {xs : List Xd} {Pm : Pg} (X : K.In h) (G : h.Ns mainGlobals mg) (c1 : ∀ c ∈ xs.map (·.c), xdB K c = true) (c : He.SaysD (fasOf fs) (fdsOf fs xs) K)
    (good : (fs.all fun f => f.good) = true) (xgood : (xs.all fun x => x.good) = true) (body : ∀ f ∈ fs, ∃ b, cSs 300 (f.cn (fs.map (·.sg)) (xs.map (·.c))) f.d.body = some b ∧ Pm f.sg.id = some ⟨f.sg.ps.length, f.N.length, b⟩) : Defs P w K mg fs xs Pm where
  good := List.all_eq_true.mp good
  body := body
  obj := fun f hf => by
    obtain ⟨i, hi⟩ := List.mem_iff_getElem?.mp hf
    have hl := (List.getElem?_eq_some_iff.mp hi).1
    exact c.def_ i (d := f.d) (by unfold fdsOf; rw [List.getElem?_append_left (by simpa using hl), List.getElem?_map, hi]; rfl)
  glo := fun f hf => by
    obtain ⟨i, hi⟩ := List.mem_iff_getElem?.mp hf
    have hl := (List.getElem?_eq_some_iff.mp hi).1
    have := He.glo_ok X G (c.fact i (f := .glo f.sg.nm) (by
      unfold fasOf
      rw [List.getElem?_append_left (by simpa using hl), List.getElem?_map, hi]
      rfl))
    have hg := List.all_eq_true.mp good f hf
    unfold Df.good at hg
    simp only [Bool.and_eq_true, decide_eq_true_eq] at hg
    rw [hg.1.1.1.1.1.1.1.1]
    exact this
  free := fun x hx => by
    obtain ⟨i, hi⟩ := List.mem_iff_getElem?.mp hx
    exact He.free_ok X G (c.fact (fs.length + i) (f := .free x) (by
      unfold fasOf
      rw [List.getElem?_append_right (by simp), List.length_map, Nat.add_sub_cancel_left, List.getElem?_map, hi]
      rfl))
  xgood := List.all_eq_true.mp xgood
  xobj := fun x hx => by
    obtain ⟨i, hi⟩ := List.mem_iff_getElem?.mp hx
    exact c.def_ (fs.length + i) (d := x.d) (by unfold fdsOf; rw [List.getElem?_append_right (by simp), List.length_map, Nat.add_sub_cancel_left, List.getElem?_map, hi]; rfl)
  xglo := fun x hx => by
    have q := c1 x.c (List.mem_map_of_mem hx)
    unfold xdB at q
    simp only [Bool.and_eq_true, decide_eq_true_eq] at q
    exact PySem.W.mg_of X G q.1.1.2
  xok := fun x hx => c1 x.c (List.mem_map_of_mem hx)
/-- the law's def, at level k -/
theorem facts_of {P : Program} {w : World} {K : PySem.W.Frag} {h : Heap} {mg : Str → Option Value} {fs : List Df} {xs : List Xd} {Pm : Pg} {fa : Addr} {f : Df} {x nm : Str} (k : Nat) (X : K.In h) (hmg : mg nm = some (.ref fa)) (st : Defs P w K mg fs xs Pm)
    (hf : f ∈ fs) (hn : f.sg.nm = nm) (hps : f.sg.ps = [x]) : ∃ fd : FuncData, (∀ (s : Shared) (u : Value), BindsTo s fd ⟨[u], []⟩ [(x, u)]) ∧ ∀ base : Heap, K.In base → base.Ns mainGlobals mg → FnG P w K mg base (L2.CX P w) (k + 2) fa fd [x] (spIR K (rxT K) (callF Pm k) f.sg.id 1) := by
  have e := hmg.symm.trans (hn ▸ st.glo f hf)
  cases e
  obtain ⟨fd, F⟩ := st.obj f hf
  have FD := fdOk_of (st.good f hf) F
  rw [hps] at FD
  refine ⟨fd, fun s u => ?_, fun base _ _ => ?_⟩
  · have := binds_kw (s := s) (us := [u]) (ws := []) (ks := []) (perm := [0]) FD (by unfold permOf; simp) rfl
    exact this
  · have := all_fn (base := base) st k f hf fd F
    rw [hps] at this
    exact this
end Tw
set_option Elab.async false
set_option linter.all false
set_option autoImplicit false
set_option maxRecDepth 100000
/-! TwRun: running the interpreter's trees by rewriting. -/
namespace Tw
open PySem
variable {cl : Cl} {σ : Sv} {s : Hs} {α β : Type}
theorem r_bind (a : α) (s : Hs) (f : α → Hs → Out β) : (Out.ok a s).bind f = f a s := id rfl
theorem r_assoc {γ : Type} (o : Out α) (f : α → Hs → Out β) (g : β → Hs → Out γ) : (o.bind f).bind g = o.bind fun x s => (f x s).bind g := Out.bind_assoc ..
theorem r_lift (a : α) (s : Hs) : lift (some a) s = .ok a s := id rfl
theorem r_noX (a : α) (s : Hs) : noX (Out.ok a s) = .ok a s := id rfl
theorem r_var (i : Nat) : ev cl (.var i) σ s = (match σ[i]? with
  | some (some v) => .ok v s
  | _ => .bad) := id rfl
theorem r_lit (v : Lit) : ev cl (.lit v) σ s = .ok v.vv s := id rfl
theorem r_vvn : Lit.vv .non = .non := id rfl
theorem r_vvb (b : Bool) : Lit.vv (.bl b) = .bl b := id rfl
theorem r_vvi (i : Int) : Lit.vv (.int i) = .int i := id rfl
theorem r_vvs (x : Str) : Lit.vv (.str x) = .str x := id rfl
theorem r_bin (m : Bool) (o : Bop) (a b : Ex) : ev cl (.bin m o a b) σ s = (ev cl a σ s).bind fun x s => (ev cl b σ s).bind fun y s => binG m o x y s := id rfl
theorem r_neg (a : Ex) : ev cl (.neg a) σ s = (ev cl a σ s).bind fun x s => gNeg x s := id rfl
theorem r_no (a : Ex) : ev cl (.no a) σ s = (ev cl a σ s).bind fun x s => lift ((trV s x).map fun b => .bl (!b)) s := id rfl
theorem r_conj (es : List Ex) : ev cl (.conj es) σ s = evAnd cl es σ s := id rfl
theorem r_disj (es : List Ex) : ev cl (.disj es) σ s = evOr cl es σ s := id rfl
theorem r_cmp (o : Cop) (a b : Ex) : ev cl (.cmp o a b) σ s = (ev cl a σ s).bind fun x s => (ev cl b σ s).bind fun y s => gCmp o x y s := id rfl
theorem r_chain (o p : Cop) (a b c : Ex) : ev cl (.chain o p a b c) σ s = (ev cl a σ s).bind fun x s => (ev cl b σ s).bind fun y s => (lift (cmpV s o x y) s).bind fun t s =>
    if t then (ev cl c σ s).bind fun z s => gCmp p y z s else .ok (.bl false) s := id rfl
theorem r_ite (c a b : Ex) : ev cl (.ite c a b) σ s = (ev cl c σ s).bind fun x s => (lift (trV s x) s).bind fun t s => if t then ev cl a σ s else ev cl b σ s := id rfl
theorem r_tup (es : List Ex) : ev cl (.tup es) σ s = (evs cl es σ s).bind fun vs s => mkT vs s := id rfl
theorem r_lst (m : Bool) (es : List Ex) : ev cl (.lst m es) σ s = (evs cl es σ s).bind fun vs s => mkL m vs s := id rfl
theorem r_idx (a i : Ex) : ev cl (.idx a i) σ s = (ev cl a σ s).bind fun x s => (ev cl i σ s).bind fun y s => gIdx x y s := id rfl
theorem r_sl (m : Bool) (a lo hi : Ex) : ev cl (.sl m a lo hi) σ s = (ev cl a σ s).bind fun x s => (ev cl lo σ s).bind fun l s => (lift (bndOf lo l) s).bind fun l s =>
    (ev cl hi σ s).bind fun u s => (lift (bndOf hi u) s).bind fun u s => gSl m x l u s := id rfl
theorem r_call (k : Bool) (f : String) (es : List Ex) : ev cl (.call k f es) σ s = (evs cl es σ s).bind fun vs s => cl k f vs s := id rfl
theorem r_callk (k : Bool) (f : String) (p : List Nat) (es : List Ex) : ev cl (.callk k f p es) σ s = (evs cl es σ s).bind fun vs s => cl k f (p.filterMap fun i => vs[i]?) s := id rfl
theorem r_bi (m : Bool) (b : Bi) (es : List Ex) : ev cl (.bi m b es) σ s = (evs cl es σ s).bind fun vs s => biV m b vs s := id rfl
theorem r_bm (b : Bm) (o : Ex) (es : List Ex) : ev cl (.bm b o es) σ s = (ev cl o σ s).bind fun v s => (lift (bmTy b v s) s).bind fun _ s => (evs cl es σ s).bind fun vs s => bmV b v vs s := id rfl
/-- a comprehension's turn -/
def stepC (cl : Cl) (elt : Ex) (tg : Tg) (cs : List Ex) (own : List Nat) (σ : Sv) : VV → Hs → Out (Option VV) := fun x s => match asg tg x (wip σ own) with
  | none => .bad
  | some σ' => (evC cl cs σ' s).bind fun b s => if b then (ev cl elt σ' s).bind fun v s => .ok (some v) s else .ok none s
theorem stepC_v (elt : Ex) (i : Nat) (own : List Nat) (x : VV) : stepC cl elt (.var i) [] own σ x s = (ev cl elt ((wip σ own).set i (some x)) s).bind fun v s => .ok (some v) s := id rfl
theorem r_comp (m : Bool) (elt : Ex) (tg : Tg) (it : It) (cs : List Ex) (own : List Nat) : ev cl (.comp m elt tg it cs own) σ s = (evIt cl it σ s).bind fun r s => (noX (compL r.2 (stepC cl elt tg cs own σ) r.1 s)).bind fun vs s => mkL m vs s := id rfl
theorem r_nil : evs cl [] σ s = .ok [] s := id rfl
theorem r_cons (e : Ex) (es : List Ex) : evs cl (e :: es) σ s = (ev cl e σ s).bind fun v s => (evs cl es σ s).bind fun vs s => .ok (v :: vs) s := id rfl
theorem r_and1 (e : Ex) : evAnd cl [e] σ s = ev cl e σ s := id rfl
theorem r_and (e f : Ex) (es : List Ex) : evAnd cl (e :: f :: es) σ s = (ev cl e σ s).bind fun v s => (lift (trV s v) s).bind fun t s => if t then evAnd cl (f :: es) σ s else .ok v s := id rfl
theorem r_or1 (e : Ex) : evOr cl [e] σ s = ev cl e σ s := id rfl
theorem r_or (e f : Ex) (es : List Ex) : evOr cl (e :: f :: es) σ s = (ev cl e σ s).bind fun v s => (lift (trV s v) s).bind fun t s => if t then .ok v s else evOr cl (f :: es) σ s := id rfl
theorem r_c0 : evC cl [] σ s = .ok true s := id rfl
theorem r_c1 (e : Ex) : evC cl [e] σ s = (ev cl e σ s).bind fun v s => lift (trV s v) s := by
  show (ev cl e σ s).bind _ = _
  congr 1
  funext v s
  cases trV s v with
  | none => rfl
  | some b => cases b <;> rfl
theorem r_range (es : List Ex) : evIt cl (.range es) σ s = (evs cl es σ s).bind fun vs s => gRange vs s := id rfl
theorem r_zip (a b : Ex) : evIt cl (.zip a b) σ s = (ev cl a σ s).bind fun x s => (ev cl b σ s).bind fun y s => gZip x y s := id rfl
theorem r_enum (a : Ex) : evIt cl (.enum a) σ s = (ev cl a σ s).bind fun x s => gEnum x s := id rfl
theorem r_pl (e : Ex) : evIt cl (.pl e) σ s = (ev cl e σ s).bind fun x s => lift (srcOf s x) s := id rfl
/-! statements -/
theorem r_s0 : exs cl [] σ s = .ok (.nx σ) s := id rfl
/-- what follows a statement -/
def thenS (cl : Cl) (r : List Stm) : Fl → Hs → Out Fl := fun f s => match f with
  | .nx σ => exs cl r σ s
  | f => .ok f s
theorem r_s (st : Stm) (r : List Stm) : exs cl (st :: r) σ s = (exe cl st σ s).bind (thenS cl r) := id rfl
theorem r_tnx (r : List Stm) : thenS cl r (.nx σ) s = exs cl r σ s := id rfl
theorem r_trt (r : List Stm) (v : VV) : thenS cl r (.rt v) s = .ok (.rt v) s := id rfl
theorem r_tbk (r : List Stm) : thenS cl r (.bk σ) s = .ok (.bk σ) s := id rfl
theorem r_tct (r : List Stm) : thenS cl r (.ct σ) s = .ok (.ct σ) s := id rfl
theorem r_txc (r : List Stm) (v : VV) : thenS cl r (.xc v σ) s = .ok (.xc v σ) s := id rfl
theorem r_cat (f : Fl) : cat σ (.ok f s) = .ok f s := id rfl
theorem r_asg (t : Tg) (e : Ex) : exe cl (.asg t e) σ s = cat σ ((ev cl e σ s).bind fun v s => lift ((asg t v σ).map Fl.nx) s) := id rfl
theorem r_sub (o i e : Ex) : exe cl (.sub o i e) σ s = cat σ ((ev cl e σ s).bind fun v s => (ev cl o σ s).bind fun x s => (ev cl i σ s).bind fun y s => (setAt s x y v).bind fun _ s => .ok (.nx σ) s) := id rfl
theorem r_aug (i : Nat) (o : Bop) (e : Ex) : exe cl (.aug i o e) σ s = (match σ[i]? with
  | some (some x) => cat σ ((ev cl e σ s).bind fun y s => match x, y with
    | .int _, .int _ => (binV o x y s).bind fun z s => .ok (.nx (σ.set i (some z))) s
    | _, _ => .bad)
  | _ => .bad) := id rfl
theorem r_expr (e : Ex) : exe cl (.expr e) σ s = cat σ ((ev cl e σ s).bind fun _ s => .ok (.nx σ) s) := id rfl
theorem r_ret (e : Ex) : exe cl (.ret e) σ s = cat σ ((ev cl e σ s).bind fun v s => .ok (.rt v) s) := id rfl
theorem r_ife (c : Ex) (a b : List Stm) : exe cl (.ife c a b) σ s = cat σ ((ev cl c σ s).bind fun x s => (lift (trV s x) s).bind fun t s => if t then exs cl a σ s else exs cl b σ s) := id rfl
/-- a for's turn -/
def stepF (cl : Cl) (t : Tg) (b : List Stm) : VV → Sv → Hs → Out Fl := fun x σ s => match asg t x σ with
  | some σ => exs cl b σ s
  | none => .bad
/-- a while's test and body -/
def whT (cl : Cl) (c : Ex) : Sv → Hs → Out Bool := fun σ s => (ev cl c σ s).bind fun x s => lift (trV s x) s
def whB (cl : Cl) (b : List Stm) : Sv → Hs → Out Fl := fun σ s => exs cl b σ s
theorem whT_ap (c : Ex) : whT cl c σ s = (ev cl c σ s).bind fun x s => lift (trV s x) s := id rfl
theorem whB_ap (b : List Stm) : whB cl b σ s = exs cl b σ s := id rfl
theorem r_whl (c : Ex) (b : List Stm) : exe cl (.whl c b) σ s = whileL (whT cl c) (whB cl b) wfuel σ s := by
  show whileL (fun σ s => (ev cl c σ s).bind fun x s => lift (trV s x) s) (fun σ s => exs cl b σ s) wfuel σ s = _
  exact rfl
/-- what a while's turn ends with -/
def whK (test : Sv → Hs → Out Bool) (step : Sv → Hs → Out Fl) (n : Nat) : Fl → Hs → Out Fl := fun f s => match f with
  | .nx σ => whileL test step n σ s
  | .ct σ => whileL test step n σ s
  | .bk σ => .ok (.nx σ) s
  | .rt v => .ok (.rt v) s
  | .xc v σ => .ok (.xc v σ) s
theorem whK_nx (test : Sv → Hs → Out Bool) (step : Sv → Hs → Out Fl) (n : Nat) : whK test step n (.nx σ) s = whileL test step n σ s := id rfl
theorem whl_red {test : Sv → Hs → Out Bool} {step : Sv → Hs → Out Fl} {n : Nat} {S : Hs} : whileL test step (n + 1) σ S = cat σ ((test σ S).bind fun b s => if b then (step σ s).bind (whK test step n) else .ok (.nx σ) s) := id rfl
theorem catcat (o : Out Fl) : cat σ (cat σ o) = cat σ o := by cases o <;> rfl
theorem stepF_v (i : Nat) (b : List Stm) (x : VV) : stepF cl (.var i) b x σ s = exs cl b (σ.set i (some x)) s := id rfl
theorem r_for (t : Tg) (it : It) (b : List Stm) : exe cl (.forr t it b) σ s = cat σ ((evIt cl it σ s).bind fun r s => forL r.2 (stepF cl t b) r.1 σ s) := id rfl
theorem r_asgv (i : Nat) (v : VV) : asg (.var i) v σ = some (σ.set i (some v)) := id rfl
theorem r_asgt (ts : List Tg) (xs : List VV) : asg (.tup ts) (.tup xs) σ = asgs ts xs σ := id rfl
theorem r_asgl (ts : List Tg) (xs : List VV) : asg (.tup ts) (.lst xs) σ = asgs ts xs σ := id rfl
theorem r_asg0 : asgs [] [] σ = some σ := id rfl
theorem r_asgc (t : Tg) (ts : List Tg) (v : VV) (vs : List VV) : asgs (t :: ts) (v :: vs) σ = (match asg t v σ with
  | some σ' => asgs ts vs σ'
  | none => none) := id rfl
theorem r_mapS (a : α) (f : α → β) : Option.map f (some a) = some (f a) := id rfl
/-! σ -/
theorem r_get0 {α : Type} (a : α) (l : List α) : (a :: l)[0]? = some a := id rfl
theorem r_gets {α : Type} (a : α) (l : List α) (i : Nat) : (a :: l)[i + 1]? = l[i]? := id rfl
theorem r_set0 {α : Type} (a b : α) (l : List α) : (a :: l).set 0 b = b :: l := id rfl
theorem r_sets {α : Type} (a b : α) (l : List α) (i : Nat) : (a :: l).set (i + 1) b = a :: l.set i b := id rfl
theorem r_wip0 : wip σ [] = σ := id rfl
theorem r_wip (v : Nat) (vs : List Nat) : wip σ (v :: vs) = (wip σ vs).set v none := id rfl
/-! values -/
theorem r_trb (b : Bool) : trV s (.bl b) = some b := id rfl
theorem r_tri (i : Int) : trV s (.int i) = some (i != 0) := id rfl
theorem r_ii (m : Bool) (o : Bop) (a b : Int) : binG m o (.int a) (.int b) s = lift ((arith o a b).map VV.int) s := id rfl
theorem r_add (a b : Int) : arith .add a b = some (a + b) := id rfl
theorem r_subi (a b : Int) : arith .sub a b = some (a - b) := id rfl
/-- d[y] -/
def gIdxD (x y : VV) (s : Hs) : Out VV := match getDV s x y with
  | some o => lift o s
  | none => .bad
theorem r_gIdx (x : VV) (j : Int) : gIdx x (.int j) s = (match seqOf s x with
  | some xs => lift (atV xs j) s
  | none => gIdxD x (.int j) s) := by
  unfold gIdx
  cases seqOf s x <;> rfl
theorem gIdx_d {x y : VV} {t : Bool} {kvs : List (VV × VV)} {k : DKey} {v : VV} (h : dctOf s x = some (t, kvs)) (hy : keyD y = some k) (ht : k.tu = t) (hv : lookD kvs k = some v) : gIdx x y s = .ok v s := by
  have h0 : seqOf s x = none := by
    cases x <;> simp [dctOf] at h <;> first | rfl | skip
    rename_i i
    show kid s i = none
    unfold kid
    split at h
    · rename_i e
      rw [e]
    · cases h
  unfold gIdx
  rw [h0]
  show (match getDV s x y with
    | some o => lift o s
    | none => .bad) = _
  unfold getDV
  rw [h, hy]
  dsimp only
  rw [if_pos ht, hv]
  rfl
theorem get_d {x y z : VV} {t : Bool} {kvs : List (VV × VV)} {k : DKey} (h : dctOf s x = some (t, kvs)) (hy : keyD y = some k) (ht : k.tu = t) : bmV .get x [y, z] s = .ok ((lookD kvs k).getD z) s := by
  show (match getDV s x y with
    | some o => Out.ok (o.getD z) s
    | none => .bad) = _
  unfold getDV
  rw [h, hy]
  dsimp only
  rw [if_pos ht]
theorem getTy_d {x : VV} {t : Bool} {kvs : List (VV × VV)} (h : dctOf s x = some (t, kvs)) : bmTy .get x s = some () := by
  show (dctOf s x).map _ = _
  rw [h]
  rfl
theorem r_dcomp (m t : Bool) (kx vx : Ex) (tg : Tg) (it : It) (cs : List Ex) (own : List Nat) : ev cl (.dcomp m t kx vx tg it cs own) σ s = (evIt cl it σ s).bind fun r s => (noX (compL r.2 (stepC cl (.tup [kx, vx]) tg cs own σ) r.1 s)).bind fun vs s => (lift (putAll t vs []) s).bind fun kvs s => mkD m t kvs s := by
  have e : (stepC cl (.tup [kx, vx]) tg cs own σ) = (fun x s => match asg tg x (wip σ own) with
        | none => .bad
        | some σ' => (evC cl cs σ' s).bind fun b s => if b then (ev cl kx σ' s).bind fun k s => (ev cl vx σ' s).bind fun v s => .ok (some (.tup [k, v])) s else .ok none s) := by
    funext x s
    unfold stepC
    cases asg tg x (wip σ own) with
    | none => rfl
    | some σ' =>
      show Out.bind _ _ = Out.bind _ _
      congr 1
      funext b s
      cases b with
      | false => rfl
      | true =>
        show ((((ev cl kx σ' s).bind fun v s => ((ev cl vx σ' s).bind fun v s => (Out.ok [] s).bind fun vs s => .ok (v :: vs) s).bind fun vs s => .ok (v :: vs) s)).bind fun vs s => mkT vs s).bind (fun v s => Out.ok (some v) s) = (ev cl kx σ' s).bind fun k s => (ev cl vx σ' s).bind fun v s => .ok (some (.tup [k, v])) s
        simp only [Out.bind_assoc]
        congr 1
  rw [e]
  exact rfl
theorem r_scomp (m : Bool) (elt : Ex) (tg : Tg) (it : It) (cs : List Ex) (own : List Nat) : ev cl (.scomp m elt tg it cs own) σ s = (evIt cl it σ s).bind fun r s => (noX (compL r.2 (stepC cl elt tg cs own σ) r.1 s)).bind fun vs s => (lift (intsOf vs) s).bind fun ns s => if (sortS ns).length < 64 then mkL m ((sortS ns).map .int) s else .bad := id rfl
theorem r_sqt (xs : List VV) : seqOf s (.tup xs) = some xs := id rfl
theorem r_sql (xs : List VV) : seqOf s (.lst xs) = some xs := id rfl
theorem r_sqr (k : Nat) : seqOf s (.ref k) = kid s k := id rfl
theorem r_gCmp (o : Cop) (x y : VV) : gCmp o x y s = lift ((cmpV s o x y).map VV.bl) s := id rfl
theorem r_lt (a b : Int) : cmpV s .lt (.int a) (.int b) = some (decide (a < b)) := id rfl
theorem r_gt (a b : Int) : cmpV s .gt (.int a) (.int b) = some (decide (b < a)) := id rfl
theorem r_le (a b : Int) : cmpV s .le (.int a) (.int b) = some (decide (a ≤ b)) := id rfl
theorem r_ge (a b : Int) : cmpV s .ge (.int a) (.int b) = some (decide (b ≤ a)) := id rfl
theorem eqv_ii (a b : Int) : PyData.eqv (.int a) (.int b) = decide (a = b) := by
  unfold PyData.eqv
  first | rfl | simp
theorem r_eqi (a b : Int) : cmpV s .eq (.int a) (.int b) = some (decide (a = b)) := congrArg some (eqv_ii a b)
theorem r_nei (a b : Int) : cmpV s .ne (.int a) (.int b) = some (!decide (a = b)) := congrArg (fun x => some (!x)) (eqv_ii a b)
theorem r_isN : cmpV s .is_ .non .non = some true := id rfl
theorem r_isI (a : Int) : cmpV s .is_ (.int a) .non = some false := id rfl
theorem r_inN : cmpV s .isnot .non .non = some false := id rfl
theorem r_inI (a : Int) : cmpV s .isnot (.int a) .non = some true := id rfl
theorem r_neg' (a : Int) : gNeg (.int a) s = .ok (.int (-a)) s := id rfl
theorem ar_mod (a b : Int) (h : 0 < b) : arith .mod a b = some (a % b) := if_pos h
theorem ar_fdiv (a b : Int) (h : 0 < b) (h2 : b < 2 ^ 64) : arith .fdiv a b = some (a / b) := if_pos ⟨h, h2⟩
theorem small_of {i : Int} (h : -(2 ^ 64) < i) (h2 : i < 2 ^ 64) : small i = true := decide_eq_true ⟨h, h2⟩
theorem ar_mulL (a b : Int) (h : small a = true) : arith .mul a b = some (a * b) := by
  show (if (small a || small b) = true then _ else _) = _
  rw [h, Bool.true_or]
  rfl
theorem ar_mulR (a b : Int) (h : small b = true) : arith .mul a b = some (a * b) := by
  show (if (small a || small b) = true then _ else _) = _
  rw [h, Bool.or_true]
  rfl
theorem kid_of {k : Nat} {xs : List VV} (h : s[k]? = some (.lst xs)) : kid s k = some xs := by
  unfold kid
  rw [h]
theorem r_at0 (x : VV) (xs : List VV) : atV (x :: xs) 0 = some x := by
  unfold atV natIx
  simp
theorem at_nat {xs : List VV} {i : Nat} {x : VV} (h : xs[i]? = some x) : atV xs (i : Int) = some x := by
  have hl := (List.getElem?_eq_some_iff.mp h).1
  unfold atV natIx
  rw [if_pos (Int.natCast_nonneg i), if_pos (by omega)]
  simpa using h
theorem r_at1 (x y : VV) (xs : List VV) : atV (x :: y :: xs) 1 = some y := at_nat (i := 1) rfl
theorem r_at2 (x y z : VV) (xs : List VV) : atV (x :: y :: z :: xs) 2 = some z := at_nat (i := 2) rfl
theorem r_ort (k : Bool) (s0 : Hs) (v : VV) : outF k s0 (.rt v) s = fin k s0 v s := id rfl
theorem r_onx (k : Bool) (s0 : Hs) : outF k s0 (.nx σ) s = fin k s0 .non s := id rfl
theorem set_of {k : Nat} {xs : List VV} {j : Int} {n : Nat} {v : VV} (h : kid s k = some xs) (hn : natIx xs.length j = some n) : setAt s (.ref k) (.int j) v = .ok () (s.set k (.lst (xs.set n v))) := by
  show (match kid s k with
    | some xs => match natIx xs.length j with
      | some n => Out.ok () (s.set k (.lst (xs.set n v)))
      | none => Out.bad
    | none => setD s k (.int j) v) = _
  rw [h]
  dsimp only
  rw [hn]
theorem ix_nat {n i : Nat} (h : i < n) : natIx n (i : Int) = some i := by
  unfold natIx
  rw [if_pos (Int.natCast_nonneg i), if_pos (by omega)]
  rfl
theorem r_lenl (m : Bool) (xs : List VV) : biV m .len [.lst xs] s = .ok (.int xs.length) s := id rfl
theorem r_lent (m : Bool) (xs : List VV) : biV m .len [.tup xs] s = .ok (.int xs.length) s := id rfl
theorem r_lenr (m : Bool) (k : Nat) : biV m .len [.ref k] s = lift ((kid s k).map fun xs => .int xs.length) s := id rfl
theorem r_abs (m : Bool) (i : Int) : biV m .abs [.int i] s = .ok (.int (if i < 0 then -i else i)) s := id rfl
theorem r_intb (m b : Bool) : biV m .int [.bl b] s = .ok (.int (if b then 1 else 0)) s := id rfl
theorem r_inti (m : Bool) (i : Int) : biV m .int [.int i] s = .ok (.int i) s := id rfl
theorem r_max2 (m : Bool) (i j : Int) : biV m .max2 [.int i, .int j] s = .ok (.int (if j > i then j else i)) s := id rfl
theorem r_min2 (m : Bool) (i j : Int) : biV m .min2 [.int i, .int j] s = .ok (.int (if j < i then j else i)) s := id rfl
theorem r_tupt (m : Bool) (xs : List VV) : biV m .tuple [.tup xs] s = mkT xs s := id rfl
theorem r_tupl (m : Bool) (xs : List VV) : biV m .tuple [.lst xs] s = mkT xs s := id rfl
theorem r_tupr (m : Bool) (k : Nat) : biV m .tuple [.ref k] s = (match kid s k with
  | some xs => mkT xs s
  | none => .bad) := id rfl
theorem r_listt (m : Bool) (xs : List VV) : biV m .list [.tup xs] s = mkL m xs s := id rfl
theorem r_listl (m : Bool) (xs : List VV) : biV m .list [.lst xs] s = mkL m xs s := id rfl
theorem r_listr (m : Bool) (k : Nat) : biV m .list [.ref k] s = (match kid s k with
  | some xs => mkL m xs s
  | none => .bad) := id rfl
theorem r_p6 : arith .pow 10 6 = some 1000000 := by decide
theorem r_p9 : arith .pow 10 9 = some 1000000000 := by decide
theorem r_p11 : arith .pow 10 11 = some 100000000000 := by decide
theorem r_p18 : arith .pow 10 18 = some 1000000000000000000 := by decide
theorem mkL_f {xs : List VV} (h : xs.length ≤ szL) : mkL false xs s = .ok (.lst xs) s := if_pos h
theorem mkL_t {xs : List VV} (h : xs.length ≤ szL) : mkL true xs s = .ok (.ref s.length) (s ++ [.lst xs]) := if_pos h
theorem mkT_k {xs : List VV} (h : xs.length ≤ szL) : mkT xs s = .ok (.tup xs) s := if_pos h
theorem sz_of {n : Nat} (h : n ≤ 65536) : n ≤ szL := by
  unfold szL
  omega
theorem r_mkT0 : mkT ([] : List VV) s = .ok (.tup ([] : List VV)) s := mkT_k (sz_of (show 0 ≤ 65536 by omega))
theorem r_mkF0 : mkL false ([] : List VV) s = .ok (.lst ([] : List VV)) s := mkL_f (sz_of (show 0 ≤ 65536 by omega))
theorem r_mkM0 : mkL true ([] : List VV) s = .ok (.ref s.length) (s ++ [.lst ([] : List VV)]) := mkL_t (sz_of (show 0 ≤ 65536 by omega))
theorem r_mkT1 (a : VV) : mkT [a] s = .ok (.tup [a]) s := mkT_k (sz_of (show 1 ≤ 65536 by omega))
theorem r_mkF1 (a : VV) : mkL false [a] s = .ok (.lst [a]) s := mkL_f (sz_of (show 1 ≤ 65536 by omega))
theorem r_mkM1 (a : VV) : mkL true [a] s = .ok (.ref s.length) (s ++ [.lst [a]]) := mkL_t (sz_of (show 1 ≤ 65536 by omega))
theorem r_mkT2 (a b : VV) : mkT [a, b] s = .ok (.tup [a, b]) s := mkT_k (sz_of (show 2 ≤ 65536 by omega))
theorem r_mkF2 (a b : VV) : mkL false [a, b] s = .ok (.lst [a, b]) s := mkL_f (sz_of (show 2 ≤ 65536 by omega))
theorem r_mkM2 (a b : VV) : mkL true [a, b] s = .ok (.ref s.length) (s ++ [.lst [a, b]]) := mkL_t (sz_of (show 2 ≤ 65536 by omega))
theorem r_mkT3 (a b c : VV) : mkT [a, b, c] s = .ok (.tup [a, b, c]) s := mkT_k (sz_of (show 3 ≤ 65536 by omega))
theorem r_mkF3 (a b c : VV) : mkL false [a, b, c] s = .ok (.lst [a, b, c]) s := mkL_f (sz_of (show 3 ≤ 65536 by omega))
theorem r_mkM3 (a b c : VV) : mkL true [a, b, c] s = .ok (.ref s.length) (s ++ [.lst [a, b, c]]) := mkL_t (sz_of (show 3 ≤ 65536 by omega))
theorem r_mkT4 (a b c d : VV) : mkT [a, b, c, d] s = .ok (.tup [a, b, c, d]) s := mkT_k (sz_of (show 4 ≤ 65536 by omega))
theorem r_mkF4 (a b c d : VV) : mkL false [a, b, c, d] s = .ok (.lst [a, b, c, d]) s := mkL_f (sz_of (show 4 ≤ 65536 by omega))
theorem r_mkM4 (a b c d : VV) : mkL true [a, b, c, d] s = .ok (.ref s.length) (s ++ [.lst [a, b, c, d]]) := mkL_t (sz_of (show 4 ≤ 65536 by omega))
theorem r_mkT5 (a b c d e : VV) : mkT [a, b, c, d, e] s = .ok (.tup [a, b, c, d, e]) s := mkT_k (sz_of (show 5 ≤ 65536 by omega))
theorem r_mkF5 (a b c d e : VV) : mkL false [a, b, c, d, e] s = .ok (.lst [a, b, c, d, e]) s := mkL_f (sz_of (show 5 ≤ 65536 by omega))
theorem r_mkM5 (a b c d e : VV) : mkL true [a, b, c, d, e] s = .ok (.ref s.length) (s ++ [.lst [a, b, c, d, e]]) := mkL_t (sz_of (show 5 ≤ 65536 by omega))
section
variable {cl : Cl} {σ : Sv} {s : Hs}
theorem r_fld (e : Ex) (f : PySem.Str) : ev cl (.fld e f) σ s = (ev cl e σ s).bind fun x s => gFld f x s := id rfl
theorem r_gfld (f : PySem.Str) (c : String) (v : VV) : gFld f (.exc c v) s = if xF c = f then .ok v s else .bad := id rfl
theorem r_isx (e : Ex) (ts : List Xt) : ev cl (.isx e ts) σ s = (ev cl e σ s).bind fun x s => lift ((isxV ts x).map .bl) s := id rfl
theorem r_isxE (ts : List Xt) (c : String) (v : VV) : isxV ts (.exc c v) = some (ts.any (subX c)) := id rfl
theorem r_isxN (ts : List Xt) : isxV ts .non = some false := id rfl
theorem r_bcnt (x : VV) (k : Int) : bmV .count x [.int k] s = lift ((seqInts s x).map fun ns => .int (ns.count k : Nat)) s := by
  cases x <;> rfl
theorem r_catX (v : VV) : cat σ (.exc v s) = .ok (.xc v σ) s := id rfl
theorem r_rai (c : String) (e : Ex) : exe cl (.rai c e) σ s = cat σ ((ev cl e σ s).bind fun v s => .exc (.exc c v) s) := id rfl
theorem r_tryk (b : List Stm) (cs : List String) (i j : Nat) : exe cl (.tryk b cs i j) σ s = (noX (exs cl b σ s)).bind (tryF cs i j) := id rfl
theorem r_tryN (cs : List String) (i j : Nat) : tryF cs i j (.nx σ) s = .ok (.nx σ) s := id rfl
theorem r_tryR (cs : List String) (i j : Nat) (v : VV) : tryF cs i j (.rt v) s = .ok (.rt v) s := id rfl
theorem r_tryX (cs : List String) (i j : Nat) (c : String) (v : VV) : tryF cs i j (.xc (.exc c v) σ) s = if cs.contains c then .ok (.nx ((σ.set j (some (.exc c v))).set i none)) s else .ok (.xc (.exc c v) σ) s := id rfl
theorem r_oxc (k : Bool) (s0 : Hs) (c : String) (v : VV) : outF k s0 (.xc (.exc c v) σ) s = (fin k s0 v s).bind fun v s => .exc (.exc c v) s := id rfl
theorem r_bindX {α β : Type} (v : VV) (f : α → Hs → Out β) : (Out.exc v s : Out α).bind f = .exc v s := id rfl
end
end Tw
set_option Elab.async false
set_option linter.all false
set_option autoImplicit false
set_option maxRecDepth 100000
/-! TwLoop: loops and comprehensions of the interpreter, by an invariant. -/
namespace Tw
open PySem
section
variable {g : List (Nat × List VV)} {σ : Sv} {s : Hs} {α : Type}
/-- over a list that nobody writes, the turns pass -/
theorem forL_ok {step : VV → Sv → Hs → Out Fl} (I : Nat → Sv → Hs → Prop) : ∀ (xs : List VV) (σ : Sv) (s : Hs) (j : Nat), I j σ s →
    (∀ i x σ s, xs[i]? = some x → I (j + i) σ s → ∃ σ' s', step x σ s = .ok (.nx σ') s' ∧ I (j + i + 1) σ' s') → ∃ σ' s', forL [] step xs σ s = .ok (.nx σ') s' ∧ I (j + xs.length) σ' s'
  | [], σ, s, j, h, _ => ⟨σ, s, rfl, h⟩
  | x :: xs, σ, s, j, h, k => by
    obtain ⟨σ1, s1, e1, h1⟩ := k 0 x σ s rfl h
    obtain ⟨σ2, s2, e2, h2⟩ := forL_ok I xs σ1 s1 (j + 1) h1 fun i y σ s hy hI => by
      have := k (i + 1) y σ s hy (by rw [show j + (i + 1) = j + 1 + i by omega]; exact hI)
      rw [show j + 1 + i + 1 = j + (i + 1) + 1 by omega]
      exact this
    refine ⟨σ2, s2, ?_, ?_⟩
    · show (if gokB s [] then (step x σ s).bind _ else _) = _
      rw [gokB_nil, if_pos rfl, e1]
      exact e2
    · rw [List.length_cons, show j + (xs.length + 1) = j + 1 + xs.length by omega]
      exact h2
/-- a turn may hand back; then the law's part says what -/
theorem forL_rt {step : VV → Sv → Hs → Out Fl} (I : Nat → Sv → Hs → Prop) (T : VV → Hs → Prop) : ∀ (xs : List VV) (σ : Sv) (s : Hs) (j : Nat), I j σ s →
    (∀ i x σ s, xs[i]? = some x → I (j + i) σ s → (∃ σ' s', step x σ s = .ok (.nx σ') s' ∧ I (j + i + 1) σ' s') ∨ ∃ v s', step x σ s = .ok (.rt v) s' ∧ T v s') →
      (∃ σ' s', forL [] step xs σ s = .ok (.nx σ') s' ∧ I (j + xs.length) σ' s') ∨ ∃ v s', forL [] step xs σ s = .ok (.rt v) s' ∧ T v s'
  | [], σ, s, j, h, _ => .inl ⟨σ, s, rfl, h⟩
  | x :: xs, σ, s, j, h, k => by
    have red : forL [] step (x :: xs) σ s = (step x σ s).bind fun f s => match f with
      | .nx σ => forL [] step xs σ s
      | .ct σ => forL [] step xs σ s
      | .bk σ => .ok (.nx σ) s
      | .rt v => .ok (.rt v) s
      | .xc v σ => .ok (.xc v σ) s := by
      show (if gokB s [] then (step x σ s).bind _ else _) = _
      rw [gokB_nil, if_pos rfl]
      all_goals rfl
    rcases k 0 x σ s rfl h with ⟨σ1, s1, e1, h1⟩ | ⟨v, s1, e1, h1⟩
    · have ih := forL_rt I T xs σ1 s1 (j + 1) h1 fun i y σ s hy hI => by
        have := k (i + 1) y σ s hy (by rw [show j + (i + 1) = j + 1 + i by omega]; exact hI)
        rw [show j + 1 + i + 1 = j + (i + 1) + 1 by omega]
        exact this
      rw [red, e1]
      rw [List.length_cons, show j + (xs.length + 1) = j + 1 + xs.length by omega]
      exact ih
    · refine .inr ⟨v, s1, ?_, h1⟩
      rw [red, e1]
      rfl
theorem compL_red {step : VV → Hs → Out (Option VV)} {x : VV} {xs : List VV} (hg : gokB s g = true) : compL g step (x :: xs) s = (step x s).bind fun o s => (compL g step xs s).bind fun r s => .ok (o.toList ++ r) s := by
  show (if gokB s g then _ else _) = _
  rw [if_pos hg]
theorem compL_end {step : VV → Hs → Out (Option VV)} (hg : gokB s g = true) : compL g step [] s = .ok [] s := if_pos hg
/-- the turns leave the heap as it is -/
theorem compL_fm {step : VV → Hs → Out (Option VV)} (hg : gokB s g = true) {φ : α → VV} {p : α → Bool} {ψ : α → VV} : ∀ {l : List α}, (∀ a ∈ l, step (φ a) s = .ok (if p a then some (ψ a) else none) s) →
    compL g step (l.map φ) s = .ok ((l.filter p).map ψ) s
  | [], _ => compL_end hg
  | a :: l, h => by
    rw [List.map_cons, compL_red hg, h a List.mem_cons_self]
    simp only [Out.bind_ok]
    rw [compL_fm hg fun b hb => h b (List.mem_cons_of_mem _ hb)]
    cases hp : p a with
    | true => simp [hp, Out.bind_ok]
    | false => simp [hp, Out.bind_ok]
theorem compL_map {step : VV → Hs → Out (Option VV)} (hg : gokB s g = true) {φ : α → VV} {ψ : α → VV} {l : List α} (h : ∀ a ∈ l, step (φ a) s = .ok (some (ψ a)) s) : compL g step (l.map φ) s = .ok (l.map ψ) s := by
  have := compL_fm (g := g) (step := step) (s := s) hg (φ := φ) (p := fun _ => true) (ψ := ψ) (l := l) fun a ha => by rw [if_pos rfl]; exact h a ha
  rw [this, List.filter_eq_self.mpr fun _ _ => rfl]
/-- the turns change the heap -/
theorem compL_ok {step : VV → Hs → Out (Option VV)} (I : Nat → List VV → Hs → Prop) : ∀ (xs : List VV) (acc : List VV) (s : Hs) (j : Nat), I j acc s →
    (∀ i x acc s, xs[i]? = some x → I (j + i) acc s → ∃ o s', step x s = .ok o s' ∧ I (j + i + 1) (acc ++ o.toList) s') → ∃ rs s', compL [] step xs s = .ok rs s' ∧ I (j + xs.length) (acc ++ rs) s'
  | [], acc, s, j, h, _ => ⟨[], s, rfl, by simpa using h⟩
  | x :: xs, acc, s, j, h, k => by
    obtain ⟨o, s1, e1, h1⟩ := k 0 x acc s rfl h
    obtain ⟨rs, s2, e2, h2⟩ := compL_ok I xs (acc ++ o.toList) s1 (j + 1) h1 fun i y acc s hy hI => by
      have := k (i + 1) y acc s hy (by rw [show j + (i + 1) = j + 1 + i by omega]; exact hI)
      rw [show j + 1 + i + 1 = j + (i + 1) + 1 by omega]
      exact this
    refine ⟨o.toList ++ rs, s2, ?_, ?_⟩
    · rw [compL_red rfl, e1]
      simp only [Out.bind_ok]
      rw [e2]
      rfl
    · rw [List.length_cons, show j + (xs.length + 1) = j + 1 + xs.length by omega, ← List.append_assoc]
      exact h2
end
theorem range_at {n i : Nat} {x : VV} (h : ((List.range n).map fun (i : Nat) => VV.int i)[i]? = some x) : i < n ∧ x = .int i := by
  rw [List.getElem?_map] at h
  obtain ⟨j, hj, rfl⟩ := Option.map_eq_some_iff.mp h
  obtain ⟨hl, e⟩ := List.getElem?_eq_some_iff.mp hj
  rw [List.length_range] at hl
  rw [List.getElem_range] at e
  subst e
  exact ⟨hl, rfl⟩
theorem map_at {α : Type} {f : α → VV} {l : List α} {i : Nat} {x : VV} (h : (l.map f)[i]? = some x) : ∃ a, l[i]? = some a ∧ x = f a := by
  rw [List.getElem?_map] at h
  obtain ⟨a, ha, rfl⟩ := Option.map_eq_some_iff.mp h
  exact ⟨a, ha, rfl⟩
/-- range(n) -/
theorem rng_nat {n : Nat} {s : Hs} (h : (n : Int) < 2 ^ 62) : gRange [.int n] s = .ok ((List.range n).map fun (i : Nat) => VV.int i, []) s := by
  unfold gRange
  split
  · rename_i m e
    cases e
    split
    · rw [Int.toNat_natCast]
    · rename_i hn
      exact absurd ⟨by omega, h⟩ hn
  · rename_i e
    cases e
  · rename_i h1 _
    exact absurd rfl (h1 _)
/-! ### tuple or list -/
def sq (b : Bool) (xs : List VV) : VV := if b then .tup xs else .lst xs
section
variable {b : Bool} {xs : List VV} {s : Hs} {σ : Sv}
theorem sq_t : sq true xs = .tup xs := id rfl
theorem sq_f : sq false xs = .lst xs := id rfl
theorem q_seq : seqOf s (sq b xs) = some xs := by cases b <;> rfl
theorem q_src : srcOf s (sq b xs) = some (xs, []) := by cases b <;> rfl
theorem q_len (m : Bool) : biV m .len [sq b xs] s = .ok (.int xs.length) s := by cases b <;> rfl
theorem q_tup (m : Bool) : biV m .tuple [sq b xs] s = mkT xs s := by cases b <;> rfl
theorem q_list (m : Bool) : biV m .list [sq b xs] s = mkL m xs s := by cases b <;> rfl
theorem q_asg (ts : List Tg) : asg (.tup ts) (sq b xs) σ = asgs ts xs σ := by cases b <;> rfl
theorem q_pur : pur (sq b xs) = purs xs := by cases b <;> simp [sq, pur]
theorem q_srt : srcOf s (.tup xs) = some (xs, []) := id rfl
theorem q_srl : srcOf s (.lst xs) = some (xs, []) := id rfl
end
theorem purs_map {α : Type} {f : α → VV} : ∀ {l : List α}, (∀ a ∈ l, pur (f a) = true) → purs (l.map f) = true
  | [], _ => rfl
  | a :: l, h => by
    rw [List.map_cons]
    simp only [purs, Bool.and_eq_true]
    exact ⟨h a List.mem_cons_self, purs_map fun b hb => h b (List.mem_cons_of_mem _ hb)⟩
theorem purs_all : ∀ {l : List VV}, purs l = true ↔ ∀ x ∈ l, pur x = true
  | [] => by simp [purs]
  | a :: l => by simp [purs, purs_all (l := l)]
/-! ### leaving a call -/
theorem fin_same {keep : Bool} {v : VV} {s : Hs} (hv : pur v = true) : fin keep s v s = .ok v s := by
  unfold fin
  cases keep with
  | true => rfl
  | false => rw [if_neg (by decide), if_pos ⟨Nat.le_refl _, fun j _ => .inl rfl⟩, if_pos hv, List.take_length]
/-- what was made is dropped -/
theorem fin_drop {v : VV} {s g : Hs} (hv : pur v = true) : fin false s v (s ++ g) = .ok v s := by
  unfold fin
  rw [if_neg (by decide), if_pos ⟨by simp, fun j hj => .inl (by rw [List.getElem?_append_left hj])⟩, if_pos hv, List.take_append_of_le_length (Nat.le_refl _), List.take_length]
end Tw
set_option Elab.async false
set_option linter.all false
set_option autoImplicit false
set_option maxRecDepth 100000
/-! LibBox: drawing from a box. -/
namespace Tw
def fn__law_take : Fn := ⟨2, 4, [.ife (.cmp .gt (.idx (.var 0) (.lit (.int 0))) (.lit (.int 0))) [.asg (.var 2) (.bin false .mod (.idx (.var 0) (.lit (.int 0))) (.var 1)), .sub (.var 0) (.lit (.int 0)) (.bin false .fdiv (.idx (.var 0) (.lit (.int 0))) (.var 1)), .ret (.var 2)] [], .sub (.var 0) (.lit (.int 2)) (.bin false .add (.idx (.var 0) (.lit (.int 2))) (.lit (.int 1))), .asg (.var 3) (.bin false .mod (.bin false .add (.idx (.var 0) (.lit (.int 1))) (.bin false .mul (.lit (.int 1442695040888963407)) (.idx (.var 0) (.lit (.int 2))))) (.lit (.int 2305843009213693951))), .asg (.var 3) (.bin false .mod (.bin false .add (.bin false .add (.bin false .mul (.var 3) (.var 3)) (.bin false .mul (.lit (.int 39373)) (.idx (.var 0) (.lit (.int 2))))) (.lit (.int 7))) (.lit (.int 2305843009213693921))), .asg (.var 3) (.bin false .mod (.bin false .add (.bin false .mul (.var 3) (.bin false .add (.bin false .fdiv (.var 3) (.lit (.int 65536))) (.lit (.int 3)))) (.idx (.var 0) (.lit (.int 2)))) (.lit (.int 2305843009213693907))), .ret (.bin false .mod (.bin false .fdiv (.var 3) (.lit (.int 1048576))) (.var 1))]⟩
def fn__law_wide : Fn := ⟨2, 2, [.ret (.bin false .mod (.bin false .add (.bin false .mul (.call false "_law_take" [(.var 0), (.bin false .pow (.lit (.int 10)) (.lit (.int 6)))]) (.bin false .pow (.lit (.int 10)) (.lit (.int 6)))) (.call false "_law_take" [(.var 0), (.bin false .pow (.lit (.int 10)) (.lit (.int 6)))])) (.var 1))]⟩
def fn__law_of : Fn := ⟨2, 2, [.ret (.idx (.var 1) (.call false "_law_take" [(.var 0), (.bi false .len [(.var 1)])]))]⟩
/-- what a drawing needs -/
structure HasBox (P : Pg) : Prop where
  take : P "_law_take" = some fn__law_take
  wide : P "_law_wide" = some fn__law_wide
  of : P "_law_of" = some fn__law_of
/-- a box: what is left of the first number, the seed, the count -/
structure Bx where
  a : Int
  x : Int
  c : Int
  h : 0 ≤ a
def Bx.ob (b : Bx) : Ob := .lst [.int b.a, .int b.x, .int b.c]
/-- a heap with the box b at k, and what was made since -/
def St (s : Hs) (k : Nat) (b : Bx) (ex : Hs) : Hs := s.set k b.ob ++ ex
section
variable {s ex : Hs} {k : Nat} {b b' : Bx}
theorem St.at (h : k < s.length) : (St s k b ex)[k]? = some b.ob := by
  unfold St
  rw [List.getElem?_append_left (by simpa using h), List.getElem?_set_self h]
theorem St.kid (h : k < s.length) : kid (St s k b ex) k = some [.int b.a, .int b.x, .int b.c] := kid_of (St.at h)
theorem St.put (h : k < s.length) : (St s k b ex).set k b'.ob = St s k b' ex := by
  unfold St
  rw [List.set_append_left _ _ (by simpa using h), List.set_set]
theorem St.stays (h : k < s.length) (g : Hs) : Stays (St s k b ex) (St s k b' (ex ++ g)) := by
  refine ⟨by simp [St], fun j hj => ?_⟩
  have e : St s k b' (ex ++ g) = St s k b' ex ++ g := by simp [St]
  rw [e]
  by_cases hk : j = k
  · subst hk
    exact .inr ⟨_, by rw [List.getElem?_append_left (by simp [St]; omega), St.at h]; rfl, rfl⟩
  · refine .inl ?_
    rw [List.getElem?_append_left (by simpa [St] using hj)]
    unfold St
    by_cases hl : j < s.length
    · rw [List.getElem?_append_left (by simpa using hl), List.getElem?_append_left (by simpa using hl), List.getElem?_set_ne (Ne.symm hk), List.getElem?_set_ne (Ne.symm hk)]
    · rw [List.getElem?_append_right (by simp; omega), List.getElem?_append_right (by simp; omega)]
      simp
theorem St.take (g : Hs) : (St s k b' (ex ++ g)).take (St s k b ex).length = St s k b' ex := by
  have e : St s k b' (ex ++ g) = St s k b' ex ++ g := by simp [St]
  rw [e, List.take_append_of_le_length (by simp [St])]
  rw [List.take_of_length_le (by simp [St])]
theorem fin_box {keep : Bool} {v : VV} (h : k < s.length) (hv : pur v = true) : fin keep (St s k b ex) v (St s k b' ex) = .ok v (St s k b' ex) := by
  unfold fin
  cases keep with
  | true => rfl
  | false =>
    have h1 := St.stays (b := b) (b' := b') (ex := ex) h []
    have h2 := St.take (s := s) (k := k) (b := b) (b' := b') (ex := ex) []
    rw [List.append_nil] at h1 h2
    rw [if_neg (by decide), if_pos h1, if_pos hv, h2]
/-- the first three -/
def lo64 (m : Int) : Prop := 0 < m ∧ m < 2 ^ 64
theorem St.sa0 (h : k < s.length) (v : VV) : setAt (St s k b ex) (.ref k) (.int 0) v = .ok () ((St s k b ex).set k (.lst [v, .int b.x, .int b.c])) := set_of (n := 0) (St.kid h) rfl
theorem St.sa2 (h : k < s.length) (v : VV) : setAt (St s k b ex) (.ref k) (.int 2) v = .ok () ((St s k b ex).set k (.lst [.int b.a, .int b.x, v])) := set_of (n := 2) (St.kid h) rfl
theorem draw_ok {P : Pg} (hP : HasBox P) (n : Nat) (keep : Bool) (hk : k < s.length) (m : Int) (hm : lo64 m) : ∃ (r : Int) (b' : Bx), 0 ≤ r ∧ r < m ∧ callF P (n + 1) keep "_law_take" [.ref k, .int m] (St s k b ex) = .ok (.int r) (St s k b' ex) := by
  have kd := St.kid (b := b) (ex := ex) hk
  obtain ⟨m1, m2⟩ := hm
  by_cases ha : 0 < b.a
  · refine ⟨b.a % m, ⟨b.a / m, b.x, b.c, Int.ediv_nonneg b.h (by omega)⟩, Int.emod_nonneg _ (by omega), Int.emod_lt_of_pos _ m1, ?_⟩
    rw [callF_run hP.take rfl]
    have e1 : (St s k b ex).set k (.lst [.int (b.a / m), .int b.x, .int b.c]) = St s k ⟨b.a / m, b.x, b.c, Int.ediv_nonneg b.h (by omega)⟩ ex := St.put (b' := ⟨b.a / m, b.x, b.c, Int.ediv_nonneg b.h (by omega)⟩) hk
    simp only [fn__law_take, r_bind, r_assoc, r_lift, r_noX, r_var, r_lit, r_vvn, r_vvb, r_vvi, r_vvs, r_bin, r_neg, r_no, r_conj, r_disj, r_cmp, r_chain, r_ite, r_tup, r_lst, r_idx, r_sl, r_call, r_callk, r_bi, r_bm, r_comp, r_nil, r_cons, r_and1, r_and, r_or1, r_or, r_c0, r_c1, r_range, r_zip, r_enum, r_pl, r_s0, r_s, r_tnx, r_trt, r_tbk, r_tct, r_txc, r_cat, r_asg, r_sub, r_aug, r_expr, r_ret, r_ife, r_for, r_asgv, r_asgt, r_asgl, r_asg0, r_asgc, r_mapS, r_get0, r_gets, r_set0, r_sets, r_wip0, r_wip, r_trb, r_tri, r_ii, r_add, r_subi, r_gIdx, r_dcomp, r_scomp, r_sqt, r_sql, r_sqr, r_gCmp, r_lt, r_gt, r_le, r_ge, r_eqi, r_nei, r_isN, r_isI, r_inN, r_inI, r_neg', r_at0, r_at1, r_at2, r_ort, r_onx, r_lenl, r_lent, r_lenr, r_abs, r_intb, r_inti, r_max2, r_min2, r_tupt, r_tupl, r_tupr, r_listt, r_listl, r_listr, r_p6, r_p9, r_p11, r_p18, r_mkT0, r_mkF0, r_mkM0, r_mkT1, r_mkF1, r_mkM1, r_mkT2, r_mkF2, r_mkM2, r_mkT3, r_mkF3, r_mkM3, r_mkT4, r_mkF4, r_mkM4, r_mkT5, r_mkF5, r_mkM5, r_fld, r_gfld, r_isx, r_isxE, r_isxN, r_bcnt, r_catX, r_rai, r_tryk, r_tryN, r_tryR, r_tryX, r_oxc, r_bindX, sq_t, sq_f, q_seq, q_src, q_len, q_tup, q_list, q_asg, q_pur, q_srt, q_srl, List.map_cons, List.map_nil, List.replicate, List.cons_append, List.nil_append, Nat.reduceSub, kd, ha, decide_true, if_true, ar_mod _ _ m1, ar_fdiv _ _ m1 m2, Option.map_some, St.sa0 hk, e1]
    exact fin_box hk rfl
  · have e1 : (St s k b ex).set k (.lst [.int b.a, .int b.x, .int (b.c + 1)]) = St s k ⟨b.a, b.x, b.c + 1, b.h⟩ ex := St.put (b' := ⟨b.a, b.x, b.c + 1, b.h⟩) hk
    have kd2 := St.kid (b := ⟨b.a, b.x, b.c + 1, b.h⟩) (ex := ex) hk
    generalize hd : b.c + 1 = c at *
    generalize h1 : (b.x + 1442695040888963407 * c) % 2305843009213693951 = t1
    have t1a : 0 ≤ t1 ∧ t1 < 2305843009213693951 := by rw [← h1]; exact ⟨Int.emod_nonneg _ (by decide), Int.emod_lt_of_pos _ (by decide)⟩
    generalize h2 : (t1 * t1 + 39373 * c + 7) % 2305843009213693921 = t2
    have t2a : 0 ≤ t2 ∧ t2 < 2305843009213693921 := by rw [← h2]; exact ⟨Int.emod_nonneg _ (by decide), Int.emod_lt_of_pos _ (by decide)⟩
    generalize h3 : (t2 * (t2 / 65536 + 3) + c) % 2305843009213693907 = t3
    refine ⟨t3 / 1048576 % m, ⟨b.a, b.x, c, b.h⟩, Int.emod_nonneg _ (by omega), Int.emod_lt_of_pos _ m1, ?_⟩
    rw [callF_run hP.take rfl]
    have s1 : small t1 = true := small_of (by omega) (by omega)
    have s2 : small t2 = true := small_of (by omega) (by omega)
    simp only [fn__law_take, r_bind, r_assoc, r_lift, r_noX, r_var, r_lit, r_vvn, r_vvb, r_vvi, r_vvs, r_bin, r_neg, r_no, r_conj, r_disj, r_cmp, r_chain, r_ite, r_tup, r_lst, r_idx, r_sl, r_call, r_callk, r_bi, r_bm, r_comp, r_nil, r_cons, r_and1, r_and, r_or1, r_or, r_c0, r_c1, r_range, r_zip, r_enum, r_pl, r_s0, r_s, r_tnx, r_trt, r_tbk, r_tct, r_txc, r_cat, r_asg, r_sub, r_aug, r_expr, r_ret, r_ife, r_for, r_asgv, r_asgt, r_asgl, r_asg0, r_asgc, r_mapS, r_get0, r_gets, r_set0, r_sets, r_wip0, r_wip, r_trb, r_tri, r_ii, r_add, r_subi, r_gIdx, r_dcomp, r_scomp, r_sqt, r_sql, r_sqr, r_gCmp, r_lt, r_gt, r_le, r_ge, r_eqi, r_nei, r_isN, r_isI, r_inN, r_inI, r_neg', r_at0, r_at1, r_at2, r_ort, r_onx, r_lenl, r_lent, r_lenr, r_abs, r_intb, r_inti, r_max2, r_min2, r_tupt, r_tupl, r_tupr, r_listt, r_listl, r_listr, r_p6, r_p9, r_p11, r_p18, r_mkT0, r_mkF0, r_mkM0, r_mkT1, r_mkF1, r_mkM1, r_mkT2, r_mkF2, r_mkM2, r_mkT3, r_mkF3, r_mkM3, r_mkT4, r_mkF4, r_mkM4, r_mkT5, r_mkF5, r_mkM5, r_fld, r_gfld, r_isx, r_isxE, r_isxN, r_bcnt, r_catX, r_rai, r_tryk, r_tryN, r_tryR, r_tryX, r_oxc, r_bindX, sq_t, sq_f, q_seq, q_src, q_len, q_tup, q_list, q_asg, q_pur, q_srt, q_srl, List.map_cons, List.map_nil, List.replicate, List.cons_append, List.nil_append, Nat.reduceSub, kd, ha, decide_false, Bool.false_eq_true, if_false, ar_mod _ _ m1, ar_fdiv _ _ m1 m2, Option.map_some, St.sa2 hk, hd, e1, kd2,
      ar_mulL 1442695040888963407 _ (by decide), ar_mulL 39373 _ (by decide), ar_mod _ 2305843009213693951 (by decide), ar_mod _ 2305843009213693921 (by decide), ar_mod _ 2305843009213693907 (by decide), h1, ar_mulL t1 _ s1, h2, ar_mulL t2 _ s2, ar_fdiv _ 65536 (by decide) (by decide), ar_fdiv _ 1048576 (by decide) (by decide), h3]
    exact fin_box hk rfl
theorem wide_ok {P : Pg} (hP : HasBox P) (n : Nat) (keep : Bool) (hk : k < s.length) (m : Int) (hm : 0 < m) : ∃ (r : Int) (b' : Bx), 0 ≤ r ∧ r < m ∧ callF P (n + 2) keep "_law_wide" [.ref k, .int m] (St s k b ex) = .ok (.int r) (St s k b' ex) := by
  obtain ⟨r1, b1, p1, q1, e1⟩ := draw_ok (b := b) (ex := ex) hP n false hk 1000000 ⟨by decide, by decide⟩
  obtain ⟨r2, b2, p2, q2, e2⟩ := draw_ok (b := b1) (ex := ex) hP n false hk 1000000 ⟨by decide, by decide⟩
  refine ⟨(r1 * 1000000 + r2) % m, b2, Int.emod_nonneg _ (by omega), Int.emod_lt_of_pos _ hm, ?_⟩
  rw [callF_run hP.wide rfl]
  simp only [fn__law_wide, r_bind, r_assoc, r_lift, r_noX, r_var, r_lit, r_vvn, r_vvb, r_vvi, r_vvs, r_bin, r_neg, r_no, r_conj, r_disj, r_cmp, r_chain, r_ite, r_tup, r_lst, r_idx, r_sl, r_call, r_callk, r_bi, r_bm, r_comp, r_nil, r_cons, r_and1, r_and, r_or1, r_or, r_c0, r_c1, r_range, r_zip, r_enum, r_pl, r_s0, r_s, r_tnx, r_trt, r_tbk, r_tct, r_txc, r_cat, r_asg, r_sub, r_aug, r_expr, r_ret, r_ife, r_for, r_asgv, r_asgt, r_asgl, r_asg0, r_asgc, r_mapS, r_get0, r_gets, r_set0, r_sets, r_wip0, r_wip, r_trb, r_tri, r_ii, r_add, r_subi, r_gIdx, r_dcomp, r_scomp, r_sqt, r_sql, r_sqr, r_gCmp, r_lt, r_gt, r_le, r_ge, r_eqi, r_nei, r_isN, r_isI, r_inN, r_inI, r_neg', r_at0, r_at1, r_at2, r_ort, r_onx, r_lenl, r_lent, r_lenr, r_abs, r_intb, r_inti, r_max2, r_min2, r_tupt, r_tupl, r_tupr, r_listt, r_listl, r_listr, r_p6, r_p9, r_p11, r_p18, r_mkT0, r_mkF0, r_mkM0, r_mkT1, r_mkF1, r_mkM1, r_mkT2, r_mkF2, r_mkM2, r_mkT3, r_mkF3, r_mkM3, r_mkT4, r_mkF4, r_mkM4, r_mkT5, r_mkF5, r_mkM5, r_fld, r_gfld, r_isx, r_isxE, r_isxN, r_bcnt, r_catX, r_rai, r_tryk, r_tryN, r_tryR, r_tryX, r_oxc, r_bindX, sq_t, sq_f, q_seq, q_src, q_len, q_tup, q_list, q_asg, q_pur, q_srt, q_srl, List.map_cons, List.map_nil, List.replicate, List.cons_append, List.nil_append, Nat.reduceSub, Option.map_some, e1, e2, ar_mulR _ 1000000 (by decide), ar_mod _ _ hm]
  exact fin_box hk rfl
theorem of_ok {P : Pg} (hP : HasBox P) (n : Nat) (keep : Bool) (hk : k < s.length) (xs : List VV) (h0 : 0 < xs.length) (h1 : xs.length < 2 ^ 64) (hp : ∀ x ∈ xs, pur x = true) :
    ∃ (x : VV) (b' : Bx), x ∈ xs ∧ callF P (n + 2) keep "_law_of" [.ref k, .lst xs] (St s k b ex) = .ok x (St s k b' ex) := by
  obtain ⟨r1, b1, p1, q1, e1⟩ := draw_ok (b := b) (ex := ex) hP n false hk xs.length ⟨by omega, by omega⟩
  obtain ⟨i, rfl⟩ := Int.eq_ofNat_of_zero_le p1
  have hi : i < xs.length := by omega
  refine ⟨xs[i], b1, List.getElem_mem hi, ?_⟩
  rw [callF_run hP.of rfl]
  simp only [fn__law_of, r_bind, r_assoc, r_lift, r_noX, r_var, r_lit, r_vvn, r_vvb, r_vvi, r_vvs, r_bin, r_neg, r_no, r_conj, r_disj, r_cmp, r_chain, r_ite, r_tup, r_lst, r_idx, r_sl, r_call, r_callk, r_bi, r_bm, r_comp, r_nil, r_cons, r_and1, r_and, r_or1, r_or, r_c0, r_c1, r_range, r_zip, r_enum, r_pl, r_s0, r_s, r_tnx, r_trt, r_tbk, r_tct, r_txc, r_cat, r_asg, r_sub, r_aug, r_expr, r_ret, r_ife, r_for, r_asgv, r_asgt, r_asgl, r_asg0, r_asgc, r_mapS, r_get0, r_gets, r_set0, r_sets, r_wip0, r_wip, r_trb, r_tri, r_ii, r_add, r_subi, r_gIdx, r_dcomp, r_scomp, r_sqt, r_sql, r_sqr, r_gCmp, r_lt, r_gt, r_le, r_ge, r_eqi, r_nei, r_isN, r_isI, r_inN, r_inI, r_neg', r_at0, r_at1, r_at2, r_ort, r_onx, r_lenl, r_lent, r_lenr, r_abs, r_intb, r_inti, r_max2, r_min2, r_tupt, r_tupl, r_tupr, r_listt, r_listl, r_listr, r_p6, r_p9, r_p11, r_p18, r_mkT0, r_mkF0, r_mkM0, r_mkT1, r_mkF1, r_mkM1, r_mkT2, r_mkF2, r_mkM2, r_mkT3, r_mkF3, r_mkM3, r_mkT4, r_mkF4, r_mkM4, r_mkT5, r_mkF5, r_mkM5, r_fld, r_gfld, r_isx, r_isxE, r_isxN, r_bcnt, r_catX, r_rai, r_tryk, r_tryN, r_tryR, r_tryX, r_oxc, r_bindX, sq_t, sq_f, q_seq, q_src, q_len, q_tup, q_list, q_asg, q_pur, q_srt, q_srl, List.map_cons, List.map_nil, List.replicate, List.cons_append, List.nil_append, Nat.reduceSub, Option.map_some, e1, at_nat (List.getElem?_eq_getElem hi)]
  exact fin_box hk (hp _ (List.getElem_mem hi))
end
end Tw
set_option linter.all false
set_option autoImplicit false
/-! LibSea: boats and tow lines, in plain Lean: standing marks, leads, moorings. -/
namespace Tw
abbrev Rope := Nat × Nat × Int
structure Sea where
  n : Nat
  ropes : List Rope
structure Sea.Ok (F : Sea) : Prop where
  pos : 0 < F.n
  few : F.n ≤ 64
  lt1 : ∀ r ∈ F.ropes, r.1 < F.n
  lt2 : ∀ r ∈ F.ropes, r.2.1 < F.n
  ne : ∀ r ∈ F.ropes, r.1 ≠ r.2.1
  nn : ∀ r ∈ F.ropes, 0 ≤ r.2.2
  len : F.ropes.length ≤ 4096
  uniq : ∀ r ∈ F.ropes, ∀ q ∈ F.ropes, r.1 = q.1 → r.2.1 = q.2.1 → r = q
abbrev Mk := Nat → Int
def Stand (F : Sea) (t : Mk) : Prop := ∀ r ∈ F.ropes, t r.1 - r.2.2 ≤ t r.2.1
def Below (n : Nat) (t u : Mk) : Prop := ∀ i, i < n → t i ≤ u i
structure IsMoor (F : Sea) (m L : Mk) : Prop where
  st : Stand F L
  up : Below F.n m L
  least : ∀ t, Stand F t → Below F.n m t → Below F.n L t
theorem IsMoor.uniq {F : Sea} {m L L' : Mk} (h : IsMoor F m L) (h' : IsMoor F m L') : ∀ i, i < F.n → L i = L' i := fun i hi =>
  Int.le_antisymm (h.least L' h'.st h'.up i hi) (h'.least L h.st h.up i hi)
/-- a standing fleet lies where it is -/
theorem IsMoor.self {F : Sea} {m : Mk} (h : Stand F m) : IsMoor F m m := ⟨h, fun _ _ => Int.le_refl _, fun _ _ u => u⟩
abbrev Tab := Nat → Nat → Option Int
structure IsLead (F : Sea) (D : Tab) : Prop where
  diag : ∀ i, i < F.n → D i i = some 0
  edge : ∀ r ∈ F.ropes, ∃ d, D r.1 r.2.1 = some d ∧ d ≤ r.2.2
  tri : ∀ k, k < F.n → ∀ i j a b, i < F.n → j < F.n → D i k = some a → D k j = some b → ∃ d, D i j = some d ∧ d ≤ a + b
  sound : ∀ i j d, i < F.n → j < F.n → D i j = some d → ∀ t, Stand F t → t i - d ≤ t j
/-- the marks that the leads ask for -/
theorem moor_of_lead {F : Sea} {D : Tab} {m L : Mk} (ok : F.Ok) (h : IsLead F D) (hL : ∀ j, j < F.n → (∃ i d, i < F.n ∧ D i j = some d ∧ L j = m i - d) ∧ ∀ i d, i < F.n → D i j = some d → m i - d ≤ L j) : IsMoor F m L := by
  refine ⟨fun r hr => ?_, fun j hj => ?_, fun t st up j hj => ?_⟩
  · have h1 := ok.lt1 r hr
    have h2 := ok.lt2 r hr
    obtain ⟨i, d, hi, hd, e⟩ := (hL r.1 h1).1
    obtain ⟨w, hw, lw⟩ := h.edge r hr
    obtain ⟨f, hf, lf⟩ := h.tri r.1 h1 i r.2.1 d w hi h2 hd hw
    have := (hL r.2.1 h2).2 i f hi hf
    omega
  · have := (hL j hj).2 j 0 hj (h.diag j hj)
    omega
  · obtain ⟨i, d, hi, hd, e⟩ := (hL j hj).1
    have h1 := h.sound i j d hi hj hd t st
    have h2 := up i hi
    omega
/-! ### the leads, by way of each boat in turn -/
def via (k : Nat) (M : Tab) : Tab := fun i j => match M i k, M k j with
  | some a, some b => (match M i j with
    | none => some (a + b)
    | some c => if a + b < c then some (a + b) else some c)
  | _, _ => M i j
structure Half (F : Sea) (k : Nat) (M : Tab) : Prop where
  diag : ∀ i, i < F.n → M i i = some 0
  edge : ∀ r ∈ F.ropes, ∃ d, M r.1 r.2.1 = some d ∧ d ≤ r.2.2
  sound : ∀ i j d, i < F.n → j < F.n → M i j = some d → ∀ t, Stand F t → t i - d ≤ t j
  tri : ∀ m, m < k → m < F.n → ∀ i j a b, i < F.n → j < F.n → M i m = some a → M m j = some b → ∃ d, M i j = some d ∧ d ≤ a + b
theorem flat {F : Sea} (ok : F.Ok) : Stand F fun _ => 0 := fun r hr => by
  have := ok.nn r hr
  show (0 : Int) - r.2.2 ≤ 0
  omega
theorem Half.nn {F : Sea} {k : Nat} {M : Tab} (ok : F.Ok) (h : Half F k M) {i j : Nat} {d : Int} (hi : i < F.n) (hj : j < F.n) (e : M i j = some d) : 0 ≤ d := by
  have := h.sound i j d hi hj e _ (flat ok)
  have : (0 : Int) - d ≤ 0 := this
  omega
theorem via_le {k : Nat} {M : Tab} {i j : Nat} {c : Int} (e : M i j = some c) : ∃ d, via k M i j = some d ∧ d ≤ c := by
  unfold via
  split
  · rw [e]
    dsimp only
    split
    · exact ⟨_, rfl, by omega⟩
    · exact ⟨_, rfl, Int.le_refl _⟩
  · exact ⟨c, e, Int.le_refl _⟩
theorem via_sum {k : Nat} {M : Tab} {i j : Nat} {a b : Int} (e1 : M i k = some a) (e2 : M k j = some b) : ∃ d, via k M i j = some d ∧ d ≤ a + b := by
  unfold via
  rw [e1, e2]
  dsimp only
  split
  · exact ⟨_, rfl, Int.le_refl _⟩
  · split
    · exact ⟨_, rfl, Int.le_refl _⟩
    · exact ⟨_, rfl, by omega⟩
theorem via_cases {k : Nat} {M : Tab} {i j : Nat} {d : Int} (e : via k M i j = some d) : M i j = some d ∨ ∃ a b, M i k = some a ∧ M k j = some b ∧ d = a + b := by
  unfold via at e
  split at e
  · rename_i a b h1 h2
    split at e
    · cases e
      exact .inr ⟨a, b, h1, h2, rfl⟩
    · rename_i c h3
      split at e
      · cases e
        exact .inr ⟨a, b, h1, h2, rfl⟩
      · cases e
        exact .inl h3
  · exact .inl e
theorem via_col {F : Sea} {k k' : Nat} {M : Tab} (ok : F.Ok) (h : Half F k' M) (hk : k < F.n) {i : Nat} (hi : i < F.n) : via k M i k = M i k := by
  unfold via
  rw [h.diag k hk]
  split
  · rename_i a b h1 h2
    cases h2
    rw [h1]
    dsimp only
    rw [if_neg (by omega)]
  · rfl
theorem via_row {F : Sea} {k k' : Nat} {M : Tab} (ok : F.Ok) (h : Half F k' M) (hk : k < F.n) {j : Nat} (hj : j < F.n) : via k M k j = M k j := by
  unfold via
  rw [h.diag k hk]
  split
  · rename_i a b h1 h2
    cases h1
    rw [h2]
    dsimp only
    rw [if_neg (by omega)]
  · rfl
theorem Half.next {F : Sea} {k : Nat} {M : Tab} (ok : F.Ok) (h : Half F k M) (hk : k < F.n) : Half F (k + 1) (via k M) := by
  refine ⟨fun i hi => ?_, fun r hr => ?_, fun i j d hi hj e t st => ?_, fun m hm hmn i j a b hi hj e1 e2 => ?_⟩
  · obtain ⟨d, e, l⟩ := via_le (k := k) (h.diag i hi)
    rcases via_cases e with q | ⟨a, b, q1, q2, rfl⟩
    · rw [e, ← q]
      exact h.diag i hi
    · have n1 := h.nn ok hi hk q1
      have n2 := h.nn ok hk hi q2
      rw [e]
      congr 1
      omega
  · obtain ⟨c, e, l⟩ := h.edge r hr
    obtain ⟨d, e2, l2⟩ := via_le (k := k) e
    exact ⟨d, e2, by omega⟩
  · rcases via_cases e with q | ⟨a, b, q1, q2, rfl⟩
    · exact h.sound i j d hi hj q t st
    · have s1 := h.sound i k a hi hk q1 t st
      have s2 := h.sound k j b hk hj q2 t st
      omega
  · by_cases hmk : m = k
    · subst hmk
      rw [via_col ok h hk hi] at e1
      rw [via_row ok h hk hj] at e2
      exact via_sum e1 e2
    · have hm : m < k := by omega
      rcases via_cases e1 with q | ⟨a1, a2, q1, q2, rfl⟩ <;> rcases via_cases e2 with p | ⟨b1, b2, p1, p2, rfl⟩
      · obtain ⟨d, e, l⟩ := h.tri m hm hmn i j a b hi hj q p
        obtain ⟨d2, e2, l2⟩ := via_le (k := k) e
        exact ⟨d2, e2, by omega⟩
      · obtain ⟨d, e, l⟩ := h.tri m hm hmn i k a b1 hi hk q p1
        obtain ⟨d2, e2, l2⟩ := via_sum e p2
        exact ⟨d2, e2, by omega⟩
      · obtain ⟨d, e, l⟩ := h.tri m hm hmn k j a2 b hk hj q2 p
        obtain ⟨d2, e2, l2⟩ := via_sum q1 e
        exact ⟨d2, e2, by omega⟩
      · have n1 := h.nn ok hk hmn q2
        have n2 := h.nn ok hmn hk p1
        obtain ⟨d2, e2, l2⟩ := via_sum q1 p2
        exact ⟨d2, e2, by omega⟩
theorem Half.whole {F : Sea} {M : Tab} (h : Half F F.n M) : IsLead F M := ⟨h.diag, h.edge, fun k hk => h.tri k hk hk, h.sound⟩
/-- where it starts: nought at home, each line's slack, nothing else -/
def first (F : Sea) : Tab := fun i j => if i = j then some 0 else (F.ropes.find? fun r => r.1 == i && r.2.1 == j).map (·.2.2)
theorem Half.first {F : Sea} (ok : F.Ok) : Half F 0 (first F) := by
  refine ⟨fun i hi => if_pos rfl, fun r hr => ?_, fun i j d hi hj e t st => ?_, fun m hm => by omega⟩
  · unfold Tw.first
    rw [if_neg (ok.ne r hr)]
    cases e : F.ropes.find? fun q => q.1 == r.1 && q.2.1 == r.2.1 with
    | none =>
      have := List.find?_eq_none.mp e r hr
      simp at this
    | some q =>
      have h1 := List.find?_some e
      have h2 := List.mem_of_find?_eq_some e
      simp only [Bool.and_eq_true, beq_iff_eq] at h1
      have := ok.uniq q h2 r hr h1.1 h1.2
      subst this
      exact ⟨_, rfl, Int.le_refl _⟩
  · unfold Tw.first at e
    split at e
    · rename_i hij
      subst hij
      cases e
      omega
    · obtain ⟨q, hq, rfl⟩ := Option.map_eq_some_iff.mp e
      have h1 := List.find?_some hq
      have h2 := List.mem_of_find?_eq_some hq
      simp only [Bool.and_eq_true, beq_iff_eq] at h1
      have := st q h2
      rw [h1.1, h1.2] at this
      exact this
/-- the leads -/
def leadK (F : Sea) : Nat → Tab
  | 0 => first F
  | k + 1 => via k (leadK F k)
theorem leadK_half {F : Sea} (ok : F.Ok) : ∀ k, k ≤ F.n → Half F k (leadK F k)
  | 0, _ => Half.first ok
  | k + 1, h => (leadK_half ok k (by omega)).next ok (by omega)
def lead (F : Sea) : Tab := leadK F F.n
theorem lead_ok {F : Sea} (ok : F.Ok) : IsLead F (lead F) := (leadK_half ok F.n (Nat.le_refl _)).whole
/-! ### the moored fleet -/
theorem top_of : ∀ (n : Nat) (p : Nat → Option Int), (∃ i d, i < n ∧ p i = some d) → ∃ i d, i < n ∧ p i = some d ∧ ∀ i' d', i' < n → p i' = some d' → d' ≤ d
  | 0, p, ⟨i, d, h, _⟩ => by omega
  | n + 1, p, ⟨i, d, h, e⟩ => by
    by_cases hn : ∃ i d, i < n ∧ p i = some d
    · obtain ⟨i1, d1, h1, e1, k1⟩ := top_of n p hn
      cases hp : p n with
      | none =>
        refine ⟨i1, d1, by omega, e1, fun i' d' hi' e' => ?_⟩
        by_cases q : i' = n
        · subst q; rw [hp] at e'; cases e'
        · exact k1 i' d' (by omega) e'
      | some c =>
        by_cases hc : c ≤ d1
        · refine ⟨i1, d1, by omega, e1, fun i' d' hi' e' => ?_⟩
          by_cases q : i' = n
          · subst q; rw [hp] at e'; cases e'; exact hc
          · exact k1 i' d' (by omega) e'
        · refine ⟨n, c, by omega, hp, fun i' d' hi' e' => ?_⟩
          by_cases q : i' = n
          · subst q; rw [hp] at e'; cases e'; omega
          · have := k1 i' d' (by omega) e'
            omega
    · have hi : i = n := by
        by_cases q : i < n
        · exact absurd ⟨i, d, q, e⟩ hn
        · omega
      subst hi
      refine ⟨i, d, h, e, fun i' d' hi' e' => ?_⟩
      by_cases q : i' = i
      · subst q; rw [e] at e'; cases e'; omega
      · exact absurd ⟨i', d', by omega, e'⟩ hn
theorem moor_ex {F : Sea} (ok : F.Ok) (m : Mk) : ∃ L, IsMoor F m L := by
  have h : ∀ j, ∃ v : Int, j < F.n → (∃ i d, i < F.n ∧ lead F i j = some d ∧ v = m i - d) ∧ ∀ i d, i < F.n → lead F i j = some d → m i - d ≤ v := fun j => by
    by_cases hj : j < F.n
    · obtain ⟨i, v, hi, e, k⟩ := top_of F.n (fun i => (lead F i j).map fun d => m i - d) ⟨j, m j - 0, hj, by rw [(lead_ok ok).diag j hj]; rfl⟩
      obtain ⟨d, hd, rfl⟩ := Option.map_eq_some_iff.mp e
      exact ⟨m i - d, fun _ => ⟨⟨i, d, hi, hd, rfl⟩, fun i' d' hi' e' => k i' _ hi' (by rw [e']; rfl)⟩⟩
    · exact ⟨0, fun z => absurd z hj⟩
  obtain ⟨L, hL⟩ := Classical.axiomOfChoice h
  exact ⟨L, moor_of_lead ok (lead_ok ok) hL⟩
open Classical in
noncomputable def moor (F : Sea) (m : Mk) : Mk := if h : ∃ L, IsMoor F m L then Classical.choose h else m
theorem moor_ok {F : Sea} (ok : F.Ok) (m : Mk) : IsMoor F m (moor F m) := by
  have h := moor_ex ok m
  unfold moor
  rw [dif_pos h]
  exact Classical.choose_spec h
/-- pulling one line -/
def pull (f : Mk) (r : Rope) : Mk := fun j => if j = r.2.1 then (if f r.1 - r.2.2 > f r.2.1 then f r.1 - r.2.2 else f r.2.1) else f j
theorem pull_up (f : Mk) (r : Rope) (j : Nat) : f j ≤ pull f r j := by
  unfold pull
  split
  · rename_i h
    subst h
    split <;> omega
  · exact Int.le_refl _
theorem pull_at (f : Mk) (r : Rope) : f r.1 - r.2.2 ≤ pull f r r.2.1 := by
  unfold pull
  rw [if_pos rfl]
  split <;> omega
theorem pulls_up : ∀ (l : List Rope) (f : Mk) (j : Nat), f j ≤ l.foldl pull f j
  | [], _, _ => Int.le_refl _
  | r :: l, f, j => Int.le_trans (pull_up f r j) (pulls_up l (pull f r) j)
theorem pulls_at : ∀ (l : List Rope) (f : Mk) (r : Rope), r ∈ l → f r.1 - r.2.2 ≤ l.foldl pull f r.2.1
  | q :: l, f, r, h => by
    rcases List.mem_cons.mp h with rfl | h
    · exact Int.le_trans (pull_at f r) (pulls_up l _ _)
    · have h1 := pulls_at l (pull f q) r h
      have h2 := pull_up f q r.1
      exact Int.le_trans (by omega) h1
theorem pulls_le {F : Sea} (ok : F.Ok) {t : Mk} (st : Stand F t) : ∀ (l : List Rope) (f : Mk), (∀ r ∈ l, r ∈ F.ropes) → Below F.n f t → Below F.n (l.foldl pull f) t
  | [], _, _, h => h
  | r :: l, f, hl, h => pulls_le ok st l (pull f r) (fun q hq => hl q (List.mem_cons_of_mem _ hq)) fun j hj => by
    have hr := hl r List.mem_cons_self
    unfold pull
    split
    · rename_i e
      have h1 := st r hr
      have h2 := h r.1 (ok.lt1 r hr)
      have h3 := h j hj
      rw [e] at h3 ⊢
      split <;> omega
    · exact h j hj
/-- a line that slips -/
def slip (f : Mk) (r : Rope) : Bool := decide (f r.2.1 < f r.1 - r.2.2)
theorem stand_iff {F : Sea} {f : Mk} : F.ropes.filter (slip f) = [] ↔ Stand F f := by
  rw [List.filter_eq_nil_iff]
  constructor
  · intro h r hr
    have := h r hr
    unfold slip at this
    simp only [decide_eq_true_eq] at this
    omega
  · intro h r hr
    have := h r hr
    unfold slip
    simp only [decide_eq_true_eq]
    omega
/-- how many boats are not yet there -/
def left (L f : Mk) : Nat → Nat
  | 0 => 0
  | n + 1 => left L f n + if f n = L n then 0 else 1
theorem left_le (L f : Mk) : ∀ n, left L f n ≤ n
  | 0 => Nat.le_refl _
  | n + 1 => by
    have := left_le L f n
    unfold left
    split <;> omega
theorem left_mono {L f f' : Mk} : ∀ n, (∀ i, i < n → f i = L i → f' i = L i) → left L f' n ≤ left L f n
  | 0, _ => Nat.le_refl _
  | n + 1, h => by
    have := left_mono n fun i hi => h i (by omega)
    have h2 := h n (by omega)
    unfold left
    by_cases e : f n = L n
    · rw [if_pos e, if_pos (h2 e)]; omega
    · rw [if_neg e]
      split <;> omega
theorem left_less {L f f' : Mk} : ∀ n, (∀ i, i < n → f i = L i → f' i = L i) → (∃ i, i < n ∧ f i ≠ L i ∧ f' i = L i) → left L f' n < left L f n
  | 0, _, ⟨i, h, _⟩ => by omega
  | n + 1, h, ⟨i, hi, h1, h2⟩ => by
    unfold left
    by_cases q : i = n
    · subst q
      have := left_mono i fun j hj => h j (by omega)
      rw [if_neg h1, if_pos h2]
      omega
    · have := left_less n (fun j hj => h j (by omega)) ⟨i, by omega, h1, h2⟩
      have h3 := h n (by omega)
      by_cases e : f n = L n
      · rw [if_pos e, if_pos (h3 e)]; omega
      · rw [if_neg e]
        split <;> omega
/-- what lies too low is pulled by a line that holds -/
theorem taut_ex {F : Sea} (ok : F.Ok) {m L f : Mk} (hL : IsMoor F m L) (h1 : Below F.n m f) (h2 : Below F.n f L) {i : Nat} (hi : i < F.n) (hne : f i ≠ L i) : ∃ r ∈ F.ropes, f r.1 = L r.1 ∧ f r.2.1 ≠ L r.2.1 ∧ L r.2.1 = L r.1 - r.2.2 := by
  apply Classical.byContradiction
  intro no
  have st : Stand F fun j => if f j = L j then L j else L j - 1 := fun r hr => by
    have s := hL.st r hr
    have no' : f r.1 = L r.1 → f r.2.1 ≠ L r.2.1 → L r.2.1 ≠ L r.1 - r.2.2 := fun a b c => no ⟨r, hr, a, b, c⟩
    dsimp only
    by_cases ha : f r.1 = L r.1
    · rw [if_pos ha]
      by_cases hb : f r.2.1 = L r.2.1
      · rw [if_pos hb]; exact s
      · rw [if_neg hb]
        have := no' ha hb
        omega
    · rw [if_neg ha]
      split <;> omega
  have up : Below F.n m fun j => if f j = L j then L j else L j - 1 := fun j hj => by
    have a := h1 j hj
    have b := h2 j hj
    dsimp only
    split <;> omega
  have := hL.least _ st up i hi
  dsimp only at this
  rw [if_neg hne] at this
  omega
/-- a round of pulling brings a boat more home -/
theorem round_less {F : Sea} (ok : F.Ok) {m L f : Mk} (hL : IsMoor F m L) (h1 : Below F.n m f) (h2 : Below F.n f L) (hs : F.ropes.filter (slip f) ≠ []) : left L ((F.ropes.filter (slip f)).foldl pull f) F.n < left L f F.n := by
  have sub : ∀ r ∈ F.ropes.filter (slip f), r ∈ F.ropes := fun r hr => (List.mem_filter.mp hr).1
  have le := pulls_le ok hL.st (F.ropes.filter (slip f)) f sub h2
  have keep : ∀ i, i < F.n → f i = L i → (F.ropes.filter (slip f)).foldl pull f i = L i := fun i hi e => by
    have a := pulls_up (F.ropes.filter (slip f)) f i
    have b := le i hi
    omega
  refine left_less F.n keep ?_
  have ne : ∃ i, i < F.n ∧ f i ≠ L i := by
    apply Classical.byContradiction
    intro no
    have all : ∀ i, i < F.n → f i = L i := fun i hi => Classical.byContradiction fun z => no ⟨i, hi, z⟩
    refine hs (stand_iff.mpr fun r hr => ?_)
    rw [all _ (ok.lt1 r hr), all _ (ok.lt2 r hr)]
    exact hL.st r hr
  obtain ⟨i, hi, hne⟩ := ne
  obtain ⟨r, hr, e1, e2, e3⟩ := taut_ex ok hL h1 h2 hi hne
  have hb := ok.lt2 r hr
  have b2 := h2 _ hb
  have sl : r ∈ F.ropes.filter (slip f) := List.mem_filter.mpr ⟨hr, by unfold slip; simp only [decide_eq_true_eq]; omega⟩
  refine ⟨r.2.1, hb, e2, ?_⟩
  have a := pulls_at _ f r sl
  have b := le _ hb
  omega
end Tw
set_option Elab.async false
set_option linter.all false
set_option autoImplicit false
set_option maxRecDepth 100000
/-! LibRiver: the fleets that the laws draw. -/
namespace Tw
def fn__law_river : Fn := ⟨3, 10, [.asg (.tup [(.var 3), (.var 4)]) (.tup [(.bin false .add (.lit (.int 1)) (.call false "_law_take" [(.var 0), (.var 1)])), (.lst true [])]), .asg (.tup [(.var 5), (.var 6)]) (.tup [(.bin false .add (.lit (.int 1)) (.call false "_law_take" [(.var 0), (.lit (.int 4))])), (.call false "_law_of" [(.var 0), (.lst false [(.lit (.int 1)), (.lit (.int 3)), (.bin false .add (.var 2) (.lit (.int 1)))])])]), .forr (.var 7) (.range [(.var 3)]) [.forr (.var 8) (.pl (.comp false (.var 9) (.var 9) (.range [(.var 3)]) [(.cmp .ne (.var 9) (.var 7))] [9])) [.ife (.cmp .lt (.call false "_law_take" [(.var 0), (.lit (.int 4))]) (.var 5)) [.expr (.bm .append (.var 4) [(.tup [(.var 7), (.var 8), (.call false "_law_wide" [(.var 0), (.var 6)])])])] []]], .ret (.tup [(.var 3), (.bi false .tuple [(.var 4)])])]⟩
theorem bm_app {s : Hs} {k : Nat} {xs : List VV} {x : VV} (h : kid s k = some xs) (hl : xs.length < szL) : bmV .append (.ref k) [x] s = .ok .non (s.set k (.lst (xs ++ [x]))) := by
  show (match kid s k with
    | some xs => if xs.length < szL then Out.ok VV.non (s.set k (.lst (xs ++ [x]))) else .bad
    | none => .bad) = _
  rw [h]
  exact if_pos hl
theorem bm_ty {s : Hs} {k : Nat} {xs : List VV} (h : kid s k = some xs) : bmTy .append (.ref k) s = some () := by
  show (kid s k).map _ = _
  rw [h]
  rfl
section
variable {s ex : Hs} {k : Nat} {b : Bx}
theorem St.len : (St s k b ex).length = s.length + ex.length := by simp [St]
theorem St.app (o : Ob) : St s k b ex ++ [o] = St s k b (ex ++ [o]) := by simp [St]
theorem St.kidL {xs : List VV} : Tw.kid (St s k b (ex ++ [.lst xs])) (s.length + ex.length) = some xs := by
  refine kid_of ?_
  unfold St
  rw [List.getElem?_append_right (by simp)]
  simp
theorem St.setL {xs ys : List VV} : (St s k b (ex ++ [.lst xs])).set (s.length + ex.length) (.lst ys) = St s k b (ex ++ [.lst ys]) := by
  unfold St
  rw [List.set_append_right _ _ (by simp)]
  simp
end
/-- a line, a fleet, marks, as tuples or as lists -/
def ropeV (b : Bool) (r : Rope) : VV := sq b [.int r.1, .int r.2.1, .int r.2.2]
def seaV (b : Bool) (F : Sea) : VV := sq b [.int F.n, sq b (F.ropes.map (ropeV b))]
def mkV (b : Bool) (n : Nat) (m : Mk) : VV := sq b ((List.range n).map fun i => .int (m i))
theorem ropeV_pur (b : Bool) (r : Rope) : pur (ropeV b r) = true := by
  unfold ropeV
  cases b <;> rfl
theorem seaV_pur (b : Bool) (F : Sea) : pur (seaV b F) = true := by
  unfold seaV
  simp only [r_bind, r_assoc, r_lift, r_noX, r_var, r_lit, r_vvn, r_vvb, r_vvi, r_vvs, r_bin, r_neg, r_no, r_conj, r_disj, r_cmp, r_chain, r_ite, r_tup, r_lst, r_idx, r_sl, r_call, r_callk, r_bi, r_bm, r_comp, r_nil, r_cons, r_and1, r_and, r_or1, r_or, r_c0, r_c1, r_range, r_zip, r_enum, r_pl, r_s0, r_s, r_tnx, r_trt, r_tbk, r_tct, r_txc, r_cat, r_asg, r_sub, r_aug, r_expr, r_ret, r_ife, r_for, r_asgv, r_asgt, r_asgl, r_asg0, r_asgc, r_mapS, r_get0, r_gets, r_set0, r_sets, r_wip0, r_wip, r_trb, r_tri, r_ii, r_add, r_subi, r_gIdx, r_dcomp, r_scomp, r_sqt, r_sql, r_sqr, r_gCmp, r_lt, r_gt, r_le, r_ge, r_eqi, r_nei, r_isN, r_isI, r_inN, r_inI, r_neg', r_at0, r_at1, r_at2, r_ort, r_onx, r_lenl, r_lent, r_lenr, r_abs, r_intb, r_inti, r_max2, r_min2, r_tupt, r_tupl, r_tupr, r_listt, r_listl, r_listr, r_p6, r_p9, r_p11, r_p18, r_mkT0, r_mkF0, r_mkM0, r_mkT1, r_mkF1, r_mkM1, r_mkT2, r_mkF2, r_mkM2, r_mkT3, r_mkF3, r_mkM3, r_mkT4, r_mkF4, r_mkM4, r_mkT5, r_mkF5, r_mkM5, r_fld, r_gfld, r_isx, r_isxE, r_isxN, r_bcnt, r_catX, r_rai, r_tryk, r_tryN, r_tryR, r_tryX, r_oxc, r_bindX, sq_t, sq_f, q_seq, q_src, q_len, q_tup, q_list, q_asg, q_pur, q_srt, q_srl, purs, pur, Bool.true_and, Bool.and_true]
  exact purs_map fun r _ => ropeV_pur b r
theorem mkV_pur (b : Bool) (n : Nat) (m : Mk) : pur (mkV b n m) = true := by
  unfold mkV
  simp only [r_bind, r_assoc, r_lift, r_noX, r_var, r_lit, r_vvn, r_vvb, r_vvi, r_vvs, r_bin, r_neg, r_no, r_conj, r_disj, r_cmp, r_chain, r_ite, r_tup, r_lst, r_idx, r_sl, r_call, r_callk, r_bi, r_bm, r_comp, r_nil, r_cons, r_and1, r_and, r_or1, r_or, r_c0, r_c1, r_range, r_zip, r_enum, r_pl, r_s0, r_s, r_tnx, r_trt, r_tbk, r_tct, r_txc, r_cat, r_asg, r_sub, r_aug, r_expr, r_ret, r_ife, r_for, r_asgv, r_asgt, r_asgl, r_asg0, r_asgc, r_mapS, r_get0, r_gets, r_set0, r_sets, r_wip0, r_wip, r_trb, r_tri, r_ii, r_add, r_subi, r_gIdx, r_dcomp, r_scomp, r_sqt, r_sql, r_sqr, r_gCmp, r_lt, r_gt, r_le, r_ge, r_eqi, r_nei, r_isN, r_isI, r_inN, r_inI, r_neg', r_at0, r_at1, r_at2, r_ort, r_onx, r_lenl, r_lent, r_lenr, r_abs, r_intb, r_inti, r_max2, r_min2, r_tupt, r_tupl, r_tupr, r_listt, r_listl, r_listr, r_p6, r_p9, r_p11, r_p18, r_mkT0, r_mkF0, r_mkM0, r_mkT1, r_mkF1, r_mkM1, r_mkT2, r_mkF2, r_mkM2, r_mkT3, r_mkF3, r_mkM3, r_mkT4, r_mkF4, r_mkM4, r_mkT5, r_mkF5, r_mkM5, r_fld, r_gfld, r_isx, r_isxE, r_isxN, r_bcnt, r_catX, r_rai, r_tryk, r_tryN, r_tryR, r_tryX, r_oxc, r_bindX, sq_t, sq_f, q_seq, q_src, q_len, q_tup, q_list, q_asg, q_pur, q_srt, q_srl]
  exact purs_map fun r _ => rfl
/-- what a drawn fleet's lines are, a part of the way -/
structure Part (n : Nat) (top : Int) (l : List Rope) : Prop where
  lt1 : ∀ r ∈ l, r.1 < n
  lt2 : ∀ r ∈ l, r.2.1 < n
  ne : ∀ r ∈ l, r.1 ≠ r.2.1
  nn : ∀ r ∈ l, 0 ≤ r.2.2 ∧ r.2.2 < top
  uniq : ∀ r ∈ l, ∀ q ∈ l, r.1 = q.1 → r.2.1 = q.2.1 → r = q
theorem Part.nil {n : Nat} {top : Int} : Part n top [] := ⟨by simp, by simp, by simp, by simp, by simp⟩
theorem Part.add {n : Nat} {top : Int} {l : List Rope} (h : Part n top l) {r : Rope} (h1 : r.1 < n) (h2 : r.2.1 < n) (h3 : r.1 ≠ r.2.1) (h4 : 0 ≤ r.2.2 ∧ r.2.2 < top) (h5 : ∀ q ∈ l, q.1 = r.1 → q.2.1 = r.2.1 → False) : Part n top (l ++ [r]) := by
  have mem : ∀ {p : Rope → Prop}, (∀ q ∈ l, p q) → p r → ∀ q ∈ l ++ [r], p q := fun {p} a b q hq => by
    rcases List.mem_append.mp hq with hq | hq
    · exact a q hq
    · rw [List.mem_singleton.mp hq]; exact b
  refine ⟨mem h.lt1 h1, mem h.lt2 h2, mem h.ne h3, mem h.nn h4, mem (fun q hq => mem (h.uniq q hq) fun a b => (h5 q hq a b).elim) (mem (fun q hq a b => (h5 q hq a.symm b.symm).elim) fun _ _ => rfl)⟩
theorem river_ok {P : Pg} (hP : HasBox P) (hR : P "_law_river" = some fn__law_river) {s ex : Hs} {k : Nat} {b : Bx} (n : Nat) (keep : Bool) (hk : k < s.length) (u : Nat) (hu : 0 < u ∧ u < 64) (h : Int) (hh : 0 ≤ h) :
    ∃ (F : Sea) (b' : Bx), F.Ok ∧ F.n ≤ u ∧ (∀ r ∈ F.ropes, r.2.2 < max 3 (h + 1)) ∧ callF P (n + 3) false "_law_river" [.ref k, .int u, .int h] (St s k b ex) = .ok (seaV true F) (St s k b' ex) := by
  obtain ⟨r1, b1, p1, q1, e1⟩ := draw_ok (b := b) (ex := ex) hP (n + 1) false hk u ⟨by omega, by omega⟩
  obtain ⟨r2, b2, p2, q2, e2⟩ := draw_ok (b := b1) (ex := ex ++ [.lst []]) hP (n + 1) false hk 4 ⟨by decide, by decide⟩
  obtain ⟨v3, b3, m3, e3⟩ := of_ok (b := b2) (ex := ex ++ [.lst []]) hP n false hk [.int 1, .int 3, .int (h + 1)] (by simp) (by simp) (by simp [pur])
  obtain ⟨top, ht0, ht1, rfl⟩ : ∃ top : Int, 0 < top ∧ top ≤ max 3 (h + 1) ∧ v3 = .int top := by
    rcases List.mem_cons.mp m3 with e | m3
    · exact ⟨1, by omega, by omega, e⟩
    · rcases List.mem_cons.mp m3 with e | m3
      · exact ⟨3, by omega, by omega, e⟩
      · exact ⟨h + 1, by omega, by omega, List.mem_singleton.mp m3⟩
  obtain ⟨n1, rfl⟩ := Int.eq_ofNat_of_zero_le p1
  have hN : ((1 : Int) + (n1 : Int)) = ((n1 + 1 : Nat) : Int) := by omega
  generalize hNN : n1 + 1 = N at hN
  have hNu : N ≤ u := by omega
  rw [callF_run hR rfl]
  simp only [fn__law_river, r_bind, r_assoc, r_lift, r_noX, r_var, r_lit, r_vvn, r_vvb, r_vvi, r_vvs, r_bin, r_neg, r_no, r_conj, r_disj, r_cmp, r_chain, r_ite, r_tup, r_lst, r_idx, r_sl, r_call, r_callk, r_bi, r_bm, r_comp, r_nil, r_cons, r_and1, r_and, r_or1, r_or, r_c0, r_c1, r_range, r_zip, r_enum, r_pl, r_s0, r_s, r_tnx, r_trt, r_tbk, r_tct, r_txc, r_cat, r_asg, r_sub, r_aug, r_expr, r_ret, r_ife, r_for, r_asgv, r_asgt, r_asgl, r_asg0, r_asgc, r_mapS, r_get0, r_gets, r_set0, r_sets, r_wip0, r_wip, r_trb, r_tri, r_ii, r_add, r_subi, r_gIdx, r_dcomp, r_scomp, r_sqt, r_sql, r_sqr, r_gCmp, r_lt, r_gt, r_le, r_ge, r_eqi, r_nei, r_isN, r_isI, r_inN, r_inI, r_neg', r_at0, r_at1, r_at2, r_ort, r_onx, r_lenl, r_lent, r_lenr, r_abs, r_intb, r_inti, r_max2, r_min2, r_tupt, r_tupl, r_tupr, r_listt, r_listl, r_listr, r_p6, r_p9, r_p11, r_p18, r_mkT0, r_mkF0, r_mkM0, r_mkT1, r_mkF1, r_mkM1, r_mkT2, r_mkF2, r_mkM2, r_mkT3, r_mkF3, r_mkM3, r_mkT4, r_mkF4, r_mkM4, r_mkT5, r_mkF5, r_mkM5, r_fld, r_gfld, r_isx, r_isxE, r_isxN, r_bcnt, r_catX, r_rai, r_tryk, r_tryN, r_tryR, r_tryX, r_oxc, r_bindX, sq_t, sq_f, q_seq, q_src, q_len, q_tup, q_list, q_asg, q_pur, q_srt, q_srl, List.map_cons, List.map_nil, List.replicate, List.cons_append, List.nil_append, Nat.reduceSub, Option.map_some, e1, St.app, St.len, e2, e3, hN]
  rw [rng_nat (by omega)]
  simp only [r_bind, r_assoc, r_lift, r_noX, r_var, r_lit, r_vvn, r_vvb, r_vvi, r_vvs, r_bin, r_neg, r_no, r_conj, r_disj, r_cmp, r_chain, r_ite, r_tup, r_lst, r_idx, r_sl, r_call, r_callk, r_bi, r_bm, r_comp, r_nil, r_cons, r_and1, r_and, r_or1, r_or, r_c0, r_c1, r_range, r_zip, r_enum, r_pl, r_s0, r_s, r_tnx, r_trt, r_tbk, r_tct, r_txc, r_cat, r_asg, r_sub, r_aug, r_expr, r_ret, r_ife, r_for, r_asgv, r_asgt, r_asgl, r_asg0, r_asgc, r_mapS, r_get0, r_gets, r_set0, r_sets, r_wip0, r_wip, r_trb, r_tri, r_ii, r_add, r_subi, r_gIdx, r_dcomp, r_scomp, r_sqt, r_sql, r_sqr, r_gCmp, r_lt, r_gt, r_le, r_ge, r_eqi, r_nei, r_isN, r_isI, r_inN, r_inI, r_neg', r_at0, r_at1, r_at2, r_ort, r_onx, r_lenl, r_lent, r_lenr, r_abs, r_intb, r_inti, r_max2, r_min2, r_tupt, r_tupl, r_tupr, r_listt, r_listl, r_listr, r_p6, r_p9, r_p11, r_p18, r_mkT0, r_mkF0, r_mkM0, r_mkT1, r_mkF1, r_mkM1, r_mkT2, r_mkF2, r_mkM2, r_mkT3, r_mkF3, r_mkM3, r_mkT4, r_mkF4, r_mkM4, r_mkT5, r_mkF5, r_mkM5, r_fld, r_gfld, r_isx, r_isxE, r_isxN, r_bcnt, r_catX, r_rai, r_tryk, r_tryN, r_tryR, r_tryX, r_oxc, r_bindX, sq_t, sq_f, q_seq, q_src, q_len, q_tup, q_list, q_asg, q_pur, q_srt, q_srl]
  -- the loops
  obtain ⟨L, hL⟩ : ∃ L : Nat → List Nat, L = fun (i : Nat) => (List.range N).filter fun (a : Nat) => !decide ((a : Int) = (i : Int)) := ⟨_, rfl⟩
  have Lnd : ∀ i : Nat, (L i).Nodup := fun i => by rw [hL]; exact List.nodup_range.filter _
  have Llt : ∀ i a : Nat, a ∈ L i → a < N ∧ a ≠ i := fun i a h => by
    rw [hL] at h
    have := List.mem_filter.mp h
    refine ⟨List.mem_range.mp this.1, fun e => ?_⟩
    rw [e] at this
    simp at this
  have Llen : ∀ i : Nat, (L i).length ≤ N := fun i => by
    rw [hL]
    have := List.length_filter_le (fun (a : Nat) => !decide ((a : Int) = (i : Int))) (List.range N)
    rw [List.length_range] at this
    exact this
  obtain ⟨q, hq⟩ : ∃ q, q = s.length + ex.length := ⟨_, rfl⟩
  rw [← hq]
  obtain ⟨J, hJ⟩ : ∃ J : Nat → Nat → List Rope → Prop, J = fun (i j : Nat) (l : List Rope) => Part N top l ∧ (∀ r ∈ l, r.1 < i ∨ (r.1 = i ∧ ∃ j' : Nat, j' < j ∧ (L i)[j']? = some r.2.1)) ∧ l.length ≤ i * N + j := ⟨_, rfl⟩
  have inner : ∀ (i : Nat) (hi : i < N) (b0 : Bx) (l0 : List Rope) (o8 o9 : Option VV), J i 0 l0 →
      ∃ (b' : Bx) (l : List Rope) (o8' : Option VV), J (i + 1) 0 l ∧ forL [] (stepF (callF P (n + 2)) (.var 8) [.ife (.cmp .lt (.call false "_law_take" [(.var 0), (.lit (.int 4))]) (.var 5)) [.expr (.bm .append (.var 4) [(.tup [(.var 7), (.var 8), (.call false "_law_wide" [(.var 0), (.var 6)])])])] []]) ((L i).map fun (a : Nat) => VV.int a)
        [some (.ref k), some (.int u), some (.int h), some (.int N), some (.ref q), some (.int (1 + r2)), some (.int top), some (.int i), o8, o9] (St s k b0 (ex ++ [.lst (l0.map (ropeV true))])) =
          .ok (.nx [some (.ref k), some (.int u), some (.int h), some (.int N), some (.ref q), some (.int (1 + r2)), some (.int top), some (.int i), o8', o9]) (St s k b' (ex ++ [.lst (l.map (ropeV true))])) := by
    intro i hi b0 l0 o8 o9 h0
    have go := forL_ok (step := stepF (callF P (n + 2)) (.var 8) [.ife (.cmp .lt (.call false "_law_take" [(.var 0), (.lit (.int 4))]) (.var 5)) [.expr (.bm .append (.var 4) [(.tup [(.var 7), (.var 8), (.call false "_law_wide" [(.var 0), (.var 6)])])])] []])
      (fun j σ s' => ∃ (b' : Bx) (l : List Rope) (o8' : Option VV), J i j l ∧ σ = [some (.ref k), some (.int u), some (.int h), some (.int N), some (.ref q), some (.int (1 + r2)), some (.int top), some (.int i), o8', o9] ∧ s' = St s k b' (ex ++ [.lst (l.map (ropeV true))]))
      ((L i).map fun (a : Nat) => VV.int a) _ _ 0 ⟨b0, l0, o8, h0, rfl, rfl⟩ ?_
    · obtain ⟨σ', s', e, b', l, o8', hj, rfl, rfl⟩ := go
      refine ⟨b', l, o8', ?_, e⟩
      rw [hJ] at hj ⊢
      obtain ⟨j1, j2, j3⟩ := hj
      refine ⟨j1, fun r hr => .inl ?_, ?_⟩
      · rcases j2 r hr with z | ⟨z, _⟩ <;> omega
      · have := Llen i
        simp only [List.length_map] at j3
        have e : (i + 1) * N = i * N + N := by rw [Nat.add_mul, Nat.one_mul]
        omega
    · intro j x σ s' hx hI
      obtain ⟨a, ha, rfl⟩ := map_at hx
      obtain ⟨b', l, o8', hj, rfl, rfl⟩ := hI
      rw [Nat.zero_add] at hj ⊢
      have haL := List.mem_of_getElem? ha
      obtain ⟨a1, a2⟩ := Llt i a haL
      obtain ⟨r4, b4, p4, q4, e4⟩ := draw_ok (b := b') (ex := ex ++ [.lst (l.map (ropeV true))]) hP (n + 1) false hk 4 ⟨by decide, by decide⟩
      obtain ⟨r5, b5, p5, q5, e5⟩ := wide_ok (b := b4) (ex := ex ++ [.lst (l.map (ropeV true))]) hP n false hk top ht0
      have kd : Tw.kid (St s k b5 (ex ++ [.lst (l.map (ropeV true))])) q = some (l.map (ropeV true)) := by rw [hq]; exact St.kidL
      have kd4 : Tw.kid (St s k b4 (ex ++ [.lst (l.map (ropeV true))])) q = some (l.map (ropeV true)) := by rw [hq]; exact St.kidL
      have st : (St s k b5 (ex ++ [.lst (l.map (ropeV true))])).set q (.lst (l.map (ropeV true) ++ [.tup [.int i, .int a, .int r5]])) = St s k b5 (ex ++ [.lst ((l ++ [(i, a, r5)]).map (ropeV true))]) := by
        rw [hq, St.setL, List.map_append]
        rfl
      rw [hJ] at hj
      obtain ⟨j1, j2, j3⟩ := hj
      have hsz : (l.map (ropeV true)).length < szL := by
        rw [List.length_map]
        have h1 : j < N := by
          have := (List.getElem?_eq_some_iff.mp ha).1
          have := Llen i
          omega
        have h2 : i * N ≤ 64 * 64 := Nat.mul_le_mul (by omega) (by omega)
        have h3 : (65536 : Nat) ≤ szL := sz_of (Nat.le_refl _)
        omega
      have bty := bm_ty kd4
      have bap := bm_app (x := .tup [.int i, .int a, .int r5]) kd hsz
      by_cases hlt : r4 < 1 + r2
      · refine ⟨_, St s k b5 (ex ++ [.lst ((l ++ [(i, a, r5)]).map (ropeV true))]), ?_, b5, l ++ [(i, a, r5)], some (.int a), ?_, rfl, rfl⟩
        · simp only [stepF, r_bind, r_assoc, r_lift, r_noX, r_var, r_lit, r_vvn, r_vvb, r_vvi, r_vvs, r_bin, r_neg, r_no, r_conj, r_disj, r_cmp, r_chain, r_ite, r_tup, r_lst, r_idx, r_sl, r_call, r_callk, r_bi, r_bm, r_comp, r_nil, r_cons, r_and1, r_and, r_or1, r_or, r_c0, r_c1, r_range, r_zip, r_enum, r_pl, r_s0, r_s, r_tnx, r_trt, r_tbk, r_tct, r_txc, r_cat, r_asg, r_sub, r_aug, r_expr, r_ret, r_ife, r_for, r_asgv, r_asgt, r_asgl, r_asg0, r_asgc, r_mapS, r_get0, r_gets, r_set0, r_sets, r_wip0, r_wip, r_trb, r_tri, r_ii, r_add, r_subi, r_gIdx, r_dcomp, r_scomp, r_sqt, r_sql, r_sqr, r_gCmp, r_lt, r_gt, r_le, r_ge, r_eqi, r_nei, r_isN, r_isI, r_inN, r_inI, r_neg', r_at0, r_at1, r_at2, r_ort, r_onx, r_lenl, r_lent, r_lenr, r_abs, r_intb, r_inti, r_max2, r_min2, r_tupt, r_tupl, r_tupr, r_listt, r_listl, r_listr, r_p6, r_p9, r_p11, r_p18, r_mkT0, r_mkF0, r_mkM0, r_mkT1, r_mkF1, r_mkM1, r_mkT2, r_mkF2, r_mkM2, r_mkT3, r_mkF3, r_mkM3, r_mkT4, r_mkF4, r_mkM4, r_mkT5, r_mkF5, r_mkM5, r_fld, r_gfld, r_isx, r_isxE, r_isxN, r_bcnt, r_catX, r_rai, r_tryk, r_tryN, r_tryR, r_tryX, r_oxc, r_bindX, sq_t, sq_f, q_seq, q_src, q_len, q_tup, q_list, q_asg, q_pur, q_srt, q_srl, e4, hlt, decide_true, if_true, bty, e5, bap, st]
        · rw [hJ]
          refine ⟨j1.add (by exact hi) a1 (fun e => a2 e.symm) ⟨p5, q5⟩ fun q' hq' e1' e2' => ?_, fun r hr => ?_, by rw [List.length_append, List.length_singleton]; omega⟩
          · rcases j2 q' hq' with z | ⟨_, j', hj', ej⟩
            · exact absurd e1' (by show q'.1 ≠ i; omega)
            · have e2' : q'.2.1 = a := e2'
              rw [e2'] at ej
              obtain ⟨l1, g1⟩ := List.getElem?_eq_some_iff.mp ej
              obtain ⟨l2, g2⟩ := List.getElem?_eq_some_iff.mp ha
              have := (List.getElem_inj (Lnd i)).mp (g1.trans g2.symm)
              omega
          · rcases List.mem_append.mp hr with hr | hr
            · rcases j2 r hr with z | ⟨z, j', hj', ej⟩
              · exact .inl z
              · exact .inr ⟨z, j', by omega, ej⟩
            · rw [List.mem_singleton.mp hr]
              exact .inr ⟨rfl, j, by omega, ha⟩
      · refine ⟨_, St s k b4 (ex ++ [.lst (l.map (ropeV true))]), ?_, b4, l, some (.int a), ?_, rfl, rfl⟩
        · simp only [stepF, r_bind, r_assoc, r_lift, r_noX, r_var, r_lit, r_vvn, r_vvb, r_vvi, r_vvs, r_bin, r_neg, r_no, r_conj, r_disj, r_cmp, r_chain, r_ite, r_tup, r_lst, r_idx, r_sl, r_call, r_callk, r_bi, r_bm, r_comp, r_nil, r_cons, r_and1, r_and, r_or1, r_or, r_c0, r_c1, r_range, r_zip, r_enum, r_pl, r_s0, r_s, r_tnx, r_trt, r_tbk, r_tct, r_txc, r_cat, r_asg, r_sub, r_aug, r_expr, r_ret, r_ife, r_for, r_asgv, r_asgt, r_asgl, r_asg0, r_asgc, r_mapS, r_get0, r_gets, r_set0, r_sets, r_wip0, r_wip, r_trb, r_tri, r_ii, r_add, r_subi, r_gIdx, r_dcomp, r_scomp, r_sqt, r_sql, r_sqr, r_gCmp, r_lt, r_gt, r_le, r_ge, r_eqi, r_nei, r_isN, r_isI, r_inN, r_inI, r_neg', r_at0, r_at1, r_at2, r_ort, r_onx, r_lenl, r_lent, r_lenr, r_abs, r_intb, r_inti, r_max2, r_min2, r_tupt, r_tupl, r_tupr, r_listt, r_listl, r_listr, r_p6, r_p9, r_p11, r_p18, r_mkT0, r_mkF0, r_mkM0, r_mkT1, r_mkF1, r_mkM1, r_mkT2, r_mkF2, r_mkM2, r_mkT3, r_mkF3, r_mkM3, r_mkT4, r_mkF4, r_mkM4, r_mkT5, r_mkF5, r_mkM5, r_fld, r_gfld, r_isx, r_isxE, r_isxN, r_bcnt, r_catX, r_rai, r_tryk, r_tryN, r_tryR, r_tryX, r_oxc, r_bindX, sq_t, sq_f, q_seq, q_src, q_len, q_tup, q_list, q_asg, q_pur, q_srt, q_srl, e4, hlt, decide_false, Bool.false_eq_true, if_false]
        · rw [hJ]
          refine ⟨j1, fun r hr => ?_, by omega⟩
          rcases j2 r hr with z | ⟨z, j', hj', ej⟩
          · exact .inl z
          · exact .inr ⟨z, j', by omega, ej⟩
  have rl : ((N : Nat) : Int) < 2 ^ 62 := by omega
  have ship : ∀ (i : Nat) (o8 o9 : Option VV) (S : Hs), compL [] (stepC (callF P (n + 2)) (.var 9) (.var 9) [(.cmp .ne (.var 9) (.var 7))] [9] [some (.ref k), some (.int u), some (.int h), some (.int N), some (.ref q), some (.int (1 + r2)), some (.int top), some (.int i), o8, o9])
      ((List.range N).map fun (a : Nat) => VV.int a) S = .ok ((L i).map fun (a : Nat) => VV.int a) S := fun i o8 o9 S => by
    rw [hL]
    refine compL_fm rfl (p := fun (a : Nat) => !decide ((a : Int) = (i : Int))) fun a ha => ?_
    simp only [stepC, r_bind, r_assoc, r_lift, r_noX, r_var, r_lit, r_vvn, r_vvb, r_vvi, r_vvs, r_bin, r_neg, r_no, r_conj, r_disj, r_cmp, r_chain, r_ite, r_tup, r_lst, r_idx, r_sl, r_call, r_callk, r_bi, r_bm, r_comp, r_nil, r_cons, r_and1, r_and, r_or1, r_or, r_c0, r_c1, r_range, r_zip, r_enum, r_pl, r_s0, r_s, r_tnx, r_trt, r_tbk, r_tct, r_txc, r_cat, r_asg, r_sub, r_aug, r_expr, r_ret, r_ife, r_for, r_asgv, r_asgt, r_asgl, r_asg0, r_asgc, r_mapS, r_get0, r_gets, r_set0, r_sets, r_wip0, r_wip, r_trb, r_tri, r_ii, r_add, r_subi, r_gIdx, r_dcomp, r_scomp, r_sqt, r_sql, r_sqr, r_gCmp, r_lt, r_gt, r_le, r_ge, r_eqi, r_nei, r_isN, r_isI, r_inN, r_inI, r_neg', r_at0, r_at1, r_at2, r_ort, r_onx, r_lenl, r_lent, r_lenr, r_abs, r_intb, r_inti, r_max2, r_min2, r_tupt, r_tupl, r_tupr, r_listt, r_listl, r_listr, r_p6, r_p9, r_p11, r_p18, r_mkT0, r_mkF0, r_mkM0, r_mkT1, r_mkF1, r_mkM1, r_mkT2, r_mkF2, r_mkM2, r_mkT3, r_mkF3, r_mkM3, r_mkT4, r_mkF4, r_mkM4, r_mkT5, r_mkF5, r_mkM5, r_fld, r_gfld, r_isx, r_isxE, r_isxN, r_bcnt, r_catX, r_rai, r_tryk, r_tryN, r_tryR, r_tryX, r_oxc, r_bindX, sq_t, sq_f, q_seq, q_src, q_len, q_tup, q_list, q_asg, q_pur, q_srt, q_srl]
    cases hd : decide ((a : Int) = (i : Int)) <;> rfl
  have go := forL_ok (step := stepF (callF P (n + 2)) (.var 7) [.forr (.var 8) (.pl (.comp false (.var 9) (.var 9) (.range [(.var 3)]) [(.cmp .ne (.var 9) (.var 7))] [9])) [.ife (.cmp .lt (.call false "_law_take" [(.var 0), (.lit (.int 4))]) (.var 5)) [.expr (.bm .append (.var 4) [(.tup [(.var 7), (.var 8), (.call false "_law_wide" [(.var 0), (.var 6)])])])] []]])
    (fun i σ s' => ∃ (b' : Bx) (l : List Rope) (o7 o8 o9 : Option VV), J i 0 l ∧ σ = [some (.ref k), some (.int u), some (.int h), some (.int N), some (.ref q), some (.int (1 + r2)), some (.int top), o7, o8, o9] ∧ s' = St s k b' (ex ++ [.lst (l.map (ropeV true))]))
    ((List.range N).map fun (i : Nat) => VV.int i) [some (.ref k), some (.int u), some (.int h), some (.int N), some (.ref q), some (.int (1 + r2)), some (.int top), none, none, none] (St s k b3 (ex ++ [.lst []])) 0
    ⟨b3, [], none, none, none, by rw [hJ]; exact ⟨Part.nil, by simp, Nat.zero_le _⟩, rfl, rfl⟩ ?_
  · obtain ⟨σ', s', e, b', l, o7, o8, o9, hj, rfl, rfl⟩ := go
    rw [hJ] at hj
    obtain ⟨j1, j2, j3⟩ := hj
    rw [Nat.zero_add, List.length_map, List.length_range] at j3
    have hll : l.length ≤ 4096 := by
      have h2 : N * N ≤ 64 * 64 := Nat.mul_le_mul (by omega) (by omega)
      omega
    have kd : Tw.kid (St s k b' (ex ++ [.lst (l.map (ropeV true))])) q = some (l.map (ropeV true)) := by rw [hq]; exact St.kidL
    have mk : ∀ S, mkT (l.map (ropeV true)) S = .ok (.tup (l.map (ropeV true))) S := fun S => mkT_k (by rw [List.length_map]; exact sz_of (by omega))
    refine ⟨⟨N, l⟩, b', ⟨by show 0 < N; omega, by show N ≤ 64; omega, j1.lt1, j1.lt2, j1.ne, fun r hr => (j1.nn r hr).1, hll, j1.uniq⟩, hNu, fun r hr => by have := (j1.nn r hr).2; omega, ?_⟩
    rw [e]
    simp only [r_bind, r_assoc, r_lift, r_noX, r_var, r_lit, r_vvn, r_vvb, r_vvi, r_vvs, r_bin, r_neg, r_no, r_conj, r_disj, r_cmp, r_chain, r_ite, r_tup, r_lst, r_idx, r_sl, r_call, r_callk, r_bi, r_bm, r_comp, r_nil, r_cons, r_and1, r_and, r_or1, r_or, r_c0, r_c1, r_range, r_zip, r_enum, r_pl, r_s0, r_s, r_tnx, r_trt, r_tbk, r_tct, r_txc, r_cat, r_asg, r_sub, r_aug, r_expr, r_ret, r_ife, r_for, r_asgv, r_asgt, r_asgl, r_asg0, r_asgc, r_mapS, r_get0, r_gets, r_set0, r_sets, r_wip0, r_wip, r_trb, r_tri, r_ii, r_add, r_subi, r_gIdx, r_dcomp, r_scomp, r_sqt, r_sql, r_sqr, r_gCmp, r_lt, r_gt, r_le, r_ge, r_eqi, r_nei, r_isN, r_isI, r_inN, r_inI, r_neg', r_at0, r_at1, r_at2, r_ort, r_onx, r_lenl, r_lent, r_lenr, r_abs, r_intb, r_inti, r_max2, r_min2, r_tupt, r_tupl, r_tupr, r_listt, r_listl, r_listr, r_p6, r_p9, r_p11, r_p18, r_mkT0, r_mkF0, r_mkM0, r_mkT1, r_mkF1, r_mkM1, r_mkT2, r_mkF2, r_mkM2, r_mkT3, r_mkF3, r_mkM3, r_mkT4, r_mkF4, r_mkM4, r_mkT5, r_mkF5, r_mkM5, r_fld, r_gfld, r_isx, r_isxE, r_isxN, r_bcnt, r_catX, r_rai, r_tryk, r_tryN, r_tryR, r_tryX, r_oxc, r_bindX, sq_t, sq_f, q_seq, q_src, q_len, q_tup, q_list, q_asg, q_pur, q_srt, q_srl, kd, mk]
    have hp := seaV_pur true ⟨N, l⟩
    show fin false (St s k b ex) (seaV true ⟨N, l⟩) _ = _
    unfold fin
    have h1 := St.stays (b := b) (b' := b') (ex := ex) hk [.lst (l.map (ropeV true))]
    have h2 := St.take (s := s) (k := k) (b := b) (b' := b') (ex := ex) [.lst (l.map (ropeV true))]
    rw [if_neg (by decide), if_pos h1, if_pos hp, h2]
  · intro i x σ s' hx hI
    obtain ⟨hi, rfl⟩ := range_at hx
    obtain ⟨b', l, o7, o8, o9, hj, rfl, rfl⟩ := hI
    rw [Nat.zero_add] at hj ⊢
    obtain ⟨b2', l2, o8', hj2, e2'⟩ := inner i hi b' l o8 o9 hj
    refine ⟨_, _, ?_, b2', l2, some (.int i), o8', o9, hj2, rfl, rfl⟩
    have mk : ∀ S, mkL false ((L i).map fun (a : Nat) => VV.int a) S = .ok (.lst ((L i).map fun (a : Nat) => VV.int a)) S := fun S => mkL_f (by
      rw [List.length_map]
      have := Llen i
      exact sz_of (by omega))
    rw [stepF_v]
    simp only [r_bind, r_assoc, r_lift, r_noX, r_var, r_lit, r_vvn, r_vvb, r_vvi, r_vvs, r_bin, r_neg, r_no, r_conj, r_disj, r_cmp, r_chain, r_ite, r_tup, r_lst, r_idx, r_sl, r_call, r_callk, r_bi, r_bm, r_comp, r_nil, r_cons, r_and1, r_and, r_or1, r_or, r_c0, r_c1, r_range, r_zip, r_enum, r_pl, r_s0, r_s, r_tnx, r_trt, r_tbk, r_tct, r_txc, r_cat, r_asg, r_sub, r_aug, r_expr, r_ret, r_ife, r_for, r_asgv, r_asgt, r_asgl, r_asg0, r_asgc, r_mapS, r_get0, r_gets, r_set0, r_sets, r_wip0, r_wip, r_trb, r_tri, r_ii, r_add, r_subi, r_gIdx, r_dcomp, r_scomp, r_sqt, r_sql, r_sqr, r_gCmp, r_lt, r_gt, r_le, r_ge, r_eqi, r_nei, r_isN, r_isI, r_inN, r_inI, r_neg', r_at0, r_at1, r_at2, r_ort, r_onx, r_lenl, r_lent, r_lenr, r_abs, r_intb, r_inti, r_max2, r_min2, r_tupt, r_tupl, r_tupr, r_listt, r_listl, r_listr, r_p6, r_p9, r_p11, r_p18, r_mkT0, r_mkF0, r_mkM0, r_mkT1, r_mkF1, r_mkM1, r_mkT2, r_mkF2, r_mkM2, r_mkT3, r_mkF3, r_mkM3, r_mkT4, r_mkF4, r_mkM4, r_mkT5, r_mkF5, r_mkM5, r_fld, r_gfld, r_isx, r_isxE, r_isxN, r_bcnt, r_catX, r_rai, r_tryk, r_tryN, r_tryR, r_tryX, r_oxc, r_bindX, sq_t, sq_f, q_seq, q_src, q_len, q_tup, q_list, q_asg, q_pur, q_srt, q_srl, rng_nat rl, ship, mk, e2']
end Tw
set_option Elab.async false
set_option linter.all false
set_option autoImplicit false
set_option maxRecDepth 100000
/-! LibLeads: the laws' own table of leads. -/
namespace Tw
def fn__law_leads : Fn := ⟨1, 8, [.asg (.var 1) (.idx (.var 0) (.lit (.int 0))), .asg (.var 4) (.comp true (.comp true (.ite (.cmp .eq (.var 3) (.var 2)) (.lit (.int 0)) (.lit .non)) (.var 2) (.range [(.var 1)]) [] [2]) (.var 3) (.range [(.var 1)]) [] [3]), .forr (.tup [(.var 3), (.var 2), (.var 5)]) (.pl (.idx (.var 0) (.lit (.int 1)))) [.sub (.idx (.var 4) (.var 3)) (.var 2) (.var 5)], .forr (.var 6) (.range [(.var 1)]) [.forr (.var 3) (.range [(.var 1)]) [.forr (.var 2) (.range [(.var 1)]) [.ife (.conj [(.cmp .isnot (.idx (.idx (.var 4) (.var 3)) (.var 6)) (.lit .non)), (.cmp .isnot (.idx (.idx (.var 4) (.var 6)) (.var 2)) (.lit .non))]) [.asg (.var 7) (.bin false .add (.idx (.idx (.var 4) (.var 3)) (.var 6)) (.idx (.idx (.var 4) (.var 6)) (.var 2))), .ife (.disj [(.cmp .is_ (.idx (.idx (.var 4) (.var 3)) (.var 2)) (.lit .non)), (.cmp .lt (.var 7) (.idx (.idx (.var 4) (.var 3)) (.var 2)))]) [.sub (.idx (.var 4) (.var 3)) (.var 2) (.var 7)] []] []]]], .ret (.var 4)]⟩
def optV : Option Int → VV
  | none => .non
  | some d => .int d
theorem optV_n : optV none = .non := id rfl
theorem optV_s (d : Int) : optV (some d) = .int d := id rfl
theorem optV_pur (o : Option Int) : pur (optV o) = true := by cases o <;> rfl
def rowV (n : Nat) (M : Tab) (i : Nat) : List VV := (List.range n).map fun j => optV (M i j)
def tabV (n : Nat) (M : Tab) : VV := .lst ((List.range n).map fun i => .lst (rowV n M i))
theorem mapO_map {α : Type} {f : VV → Option VV} {φ ψ : α → VV} : ∀ {l : List α}, (∀ a ∈ l, f (φ a) = some (ψ a)) → mapO f (l.map φ) = some (l.map ψ)
  | [], _ => rfl
  | a :: l, h => by
    rw [List.map_cons, List.map_cons]
    unfold mapO
    rw [h a List.mem_cons_self, mapO_map fun b hb => h b (List.mem_cons_of_mem _ hb)]
theorem frz_opt {n lim : Nat} {s : Hs} (o : Option Int) : frz n lim s (optV o) = some (optV o) := by
  cases o <;> cases n <;> exact if_pos rfl
theorem frz_ref {n lim k : Nat} {s : Hs} {xs ys : List VV} (h : lim ≤ k) (e : s[k]? = some (.lst xs)) (m : mapO (frz n lim s) xs = some ys) : frz (n + 1) lim s (.ref k) = some (.lst ys) := by
  show (if k < lim then some (VV.ref k) else match s[k]? with
    | some (.lst xs) => (mapO (frz n lim s) xs).map .lst
    | some (.dct t kvs) => (mapO (fun p => (frz n lim s p.2).map fun v => (p.1, v)) kvs).map (.dct t)
    | _ => none) = _
  rw [if_neg (by omega), e]
  dsimp only
  rw [m]
  rfl
/-- what was made is dropped, what is handed back is frozen -/
theorem fin_frz {v y : VV} {s g : Hs} (hv : pur v = false) (h : frz 6 s.length (s ++ g) v = some y) : fin false s v (s ++ g) = .ok y s := by
  unfold fin
  rw [if_neg (by decide), if_pos ⟨by simp, fun j hj => .inl (by rw [List.getElem?_append_left hj])⟩, if_neg (by rw [hv]; decide), h]
  dsimp only
  rw [List.take_append_of_le_length (Nat.le_refl _), List.take_length]
/-- the table on the heap: rows, then the list of them -/
def tabS (s : Hs) (n : Nat) (M : Tab) : Hs := s ++ ((List.range n).map (fun i => Ob.lst (rowV n M i)) ++ [.lst ((List.range n).map fun i => .ref (s.length + i))])
section
variable {s : Hs} {n i j : Nat} {M M' : Tab}
theorem tab_congr (h : ∀ a b, a < n → b < n → M a b = M' a b) : tabS s n M = tabS s n M' := by
  unfold tabS
  congr 2
  apply List.map_congr_left
  intro a ha
  unfold rowV
  congr 1
  apply List.map_congr_left
  intro b hb
  rw [h a b (List.mem_range.mp ha) (List.mem_range.mp hb)]
theorem tab_kid : kid (tabS s n M) (s.length + n) = some ((List.range n).map fun i => .ref (s.length + i)) := by
  refine kid_of ?_
  unfold tabS
  rw [List.getElem?_append_right (by omega), List.getElem?_append_right (by simp)]
  simp
theorem tab_at (hi : i < n) : (tabS s n M)[s.length + i]? = some (.lst (rowV n M i)) := by
  unfold tabS
  rw [List.getElem?_append_right (by omega), List.getElem?_append_left (by simp; omega), List.getElem?_map]
  rw [Nat.add_sub_cancel_left, List.getElem?_range hi]
  rfl
theorem tab_row (hi : i < n) : kid (tabS s n M) (s.length + i) = some (rowV n M i) := kid_of (tab_at hi)
theorem at_rng (hi : i < n) (f : Nat → VV) : atV ((List.range n).map f) (i : Int) = some (f i) := at_nat (by rw [List.getElem?_map, List.getElem?_range hi]; rfl)
theorem row_at (hj : j < n) (i : Nat) (M : Tab) : atV (rowV n M i) (j : Int) = some (optV (M i j)) := at_rng hj _
def upd2 (M : Tab) (i j : Nat) (v : Option Int) : Tab := fun a b => if a = i ∧ b = j then v else M a b
theorem set_rng (hj : j < n) (f : Nat → VV) (v : VV) : ((List.range n).map f).set j v = (List.range n).map fun b => if b = j then v else f b := by
  apply List.ext_getElem?
  intro k
  rw [List.getElem?_set, List.getElem?_map, List.getElem?_map]
  by_cases hk : j = k
  · subst hk
    rw [if_pos rfl, List.length_map, List.length_range, if_pos hj, List.getElem?_range hj]
    simp
  · rw [if_neg hk]
    by_cases hl : k < n
    · rw [List.getElem?_range hl]
      simp [Ne.symm hk]
    · rw [List.getElem?_eq_none (by simpa using hl)]
      rfl
theorem tab_set (hi : i < n) (hj : j < n) (v : Option Int) : setAt (tabS s n M) (.ref (s.length + i)) (.int j) (optV v) = .ok () (tabS s n (upd2 M i j v)) := by
  rw [set_of (n := j) (tab_row hi) (by unfold rowV; rw [List.length_map, List.length_range]; exact ix_nat hj)]
  congr 1
  unfold tabS
  rw [List.set_append_right _ _ (by omega), Nat.add_sub_cancel_left, List.set_append_left _ _ (by simpa using hi)]
  congr 2
  apply List.ext_getElem?
  intro k
  rw [List.getElem?_set, List.getElem?_map, List.getElem?_map]
  by_cases hk : i = k
  · subst hk
    rw [if_pos rfl, List.length_map, List.length_range, if_pos hi, List.getElem?_range hi]
    simp only [Option.map_some]
    congr 2
    unfold rowV
    rw [set_rng hj]
    apply List.map_congr_left
    intro b _
    unfold upd2
    by_cases hb : b = j
    · subst hb; simp
    · simp [hb]
  · rw [if_neg hk]
    by_cases hl : k < n
    · rw [List.getElem?_range hl]
      simp only [Option.map_some]
      congr 2
      unfold rowV upd2
      apply List.map_congr_left
      intro b _
      rw [if_neg fun z => hk z.1.symm]
    · rw [List.getElem?_eq_none (by simpa using hl)]
      rfl
theorem tab_frz (hn : n ≤ 64) : fin false s (.ref (s.length + n)) (tabS s n M) = .ok (tabV n M) s := by
  refine fin_frz rfl ?_
  have k1 : (tabS s n M)[s.length + n]? = some (.lst ((List.range n).map fun i => .ref (s.length + i))) := by
    unfold tabS
    rw [List.getElem?_append_right (by omega), List.getElem?_append_right (by simp)]
    simp
  exact frz_ref (by omega) k1 (mapO_map fun a ha => frz_ref (by omega) (tab_at (List.mem_range.mp ha)) (mapO_map fun b _ => frz_opt _))
end
/-- one line after another -/
theorem fill_no {a b : Nat} : ∀ (l : List Rope) (M : Tab), (∀ r ∈ l, ¬ (r.1 = a ∧ r.2.1 = b)) → l.foldl (fun M r => upd2 M r.1 r.2.1 (some r.2.2)) M a b = M a b
  | [], _, _ => rfl
  | r :: l, M, h => by
    rw [List.foldl_cons, fill_no l _ fun q hq => h q (List.mem_cons_of_mem _ hq)]
    unfold upd2
    rw [if_neg fun z => h r List.mem_cons_self ⟨z.1.symm, z.2.symm⟩]
theorem fill_yes {a b : Nat} {w : Int} : ∀ (l : List Rope) (M : Tab), (∃ r ∈ l, r.1 = a ∧ r.2.1 = b) → (∀ r ∈ l, r.1 = a → r.2.1 = b → r.2.2 = w) → l.foldl (fun M r => upd2 M r.1 r.2.1 (some r.2.2)) M a b = some w
  | [], _, ⟨_, h, _⟩, _ => by simp at h
  | r :: l, M, ⟨q, hq, h1, h2⟩, hw => by
    rw [List.foldl_cons]
    by_cases hl : ∃ r ∈ l, r.1 = a ∧ r.2.1 = b
    · exact fill_yes l _ hl fun p hp => hw p (List.mem_cons_of_mem _ hp)
    · rw [fill_no l _ fun p hp z => hl ⟨p, hp, z⟩]
      rcases List.mem_cons.mp hq with rfl | hq
      · unfold upd2
        rw [if_pos ⟨h1.symm, h2.symm⟩, hw q List.mem_cons_self h1 h2]
      · exact absurd ⟨q, hq, h1, h2⟩ hl
theorem fill_first {F : Sea} (ok : F.Ok) (a b : Nat) : F.ropes.foldl (fun M r => upd2 M r.1 r.2.1 (some r.2.2)) (fun a b => if a = b then some 0 else none) a b = first F a b := by
  unfold first
  by_cases hab : a = b
  · subst hab
    rw [fill_no _ _ fun r hr z => ok.ne r hr (z.1.trans z.2.symm), if_pos rfl]
    exact (if_pos rfl).symm
  · rw [if_neg hab]
    cases e : F.ropes.find? fun r => r.1 == a && r.2.1 == b with
    | none =>
      rw [fill_no _ _ fun r hr z => by
        have := List.find?_eq_none.mp e r hr
        simp [z.1, z.2] at this]
      exact if_neg hab
    | some q =>
      have h1 := List.find?_some e
      have h2 := List.mem_of_find?_eq_some e
      simp only [Bool.and_eq_true, beq_iff_eq] at h1
      rw [fill_yes (w := q.2.2) _ _ ⟨q, h2, h1⟩ fun r hr z1 z2 => by rw [ok.uniq r hr q h2 (z1.trans h1.1.symm) (z2.trans h1.2.symm)]]
      rfl
section
variable {P : Pg} {F : Sea} {s : Hs} {b : Bool}
/-- the innermost turn -/
def bodyL : List Stm := [.ife (.conj [(.cmp .isnot (.idx (.idx (.var 4) (.var 3)) (.var 6)) (.lit .non)), (.cmp .isnot (.idx (.idx (.var 4) (.var 6)) (.var 2)) (.lit .non))]) [.asg (.var 7) (.bin false .add (.idx (.idx (.var 4) (.var 3)) (.var 6)) (.idx (.idx (.var 4) (.var 6)) (.var 2))),
  .ife (.disj [(.cmp .is_ (.idx (.idx (.var 4) (.var 3)) (.var 2)) (.lit .non)), (.cmp .lt (.var 7) (.idx (.idx (.var 4) (.var 3)) (.var 2)))]) [.sub (.idx (.var 4) (.var 3)) (.var 2) (.var 7)] []] []]
theorem upd2_id {M : Tab} {i j : Nat} : upd2 M i j (M i j) = M := by
  funext a b
  unfold upd2
  split
  · rename_i h; rw [h.1, h.2]
  · rfl
theorem body_ok {cl : Cl} {n k i j : Nat} {M : Tab} (hk : k < n) (hi : i < n) (hj : j < n) (x0 : VV) (o2 o5 o7 : Option VV) :
    ∃ o7', exs cl bodyL [some x0, some (.int n), some (.int j), some (.int i), some (.ref (s.length + n)), o5, some (.int k), o7] (tabS s n M) =
      .ok (.nx [some x0, some (.int n), some (.int j), some (.int i), some (.ref (s.length + n)), o5, some (.int k), o7']) (tabS s n (upd2 M i j (via k M i j))) := by
  have hv : via k M i j = (match M i k, M k j with
    | some a, some b => (match M i j with
      | none => some (a + b)
      | some c => if a + b < c then some (a + b) else some c)
    | _, _ => M i j) := rfl
  cases h1 : M i k with
  | none =>
    rw [h1] at hv
    refine ⟨o7, ?_⟩
    rw [hv, upd2_id]
    simp only [bodyL, r_bind, r_assoc, r_lift, r_noX, r_var, r_lit, r_vvn, r_vvb, r_vvi, r_vvs, r_bin, r_neg, r_no, r_conj, r_disj, r_cmp, r_chain, r_ite, r_tup, r_lst, r_idx, r_sl, r_call, r_callk, r_bi, r_bm, r_comp, r_nil, r_cons, r_and1, r_and, r_or1, r_or, r_c0, r_c1, r_range, r_zip, r_enum, r_pl, r_s0, r_s, r_tnx, r_trt, r_tbk, r_tct, r_txc, r_cat, r_asg, r_sub, r_aug, r_expr, r_ret, r_ife, r_for, r_asgv, r_asgt, r_asgl, r_asg0, r_asgc, r_mapS, r_get0, r_gets, r_set0, r_sets, r_wip0, r_wip, r_trb, r_tri, r_ii, r_add, r_subi, r_gIdx, r_dcomp, r_scomp, r_sqt, r_sql, r_sqr, r_gCmp, r_lt, r_gt, r_le, r_ge, r_eqi, r_nei, r_isN, r_isI, r_inN, r_inI, r_neg', r_at0, r_at1, r_at2, r_ort, r_onx, r_lenl, r_lent, r_lenr, r_abs, r_intb, r_inti, r_max2, r_min2, r_tupt, r_tupl, r_tupr, r_listt, r_listl, r_listr, r_p6, r_p9, r_p11, r_p18, r_mkT0, r_mkF0, r_mkM0, r_mkT1, r_mkF1, r_mkM1, r_mkT2, r_mkF2, r_mkM2, r_mkT3, r_mkF3, r_mkM3, r_mkT4, r_mkF4, r_mkM4, r_mkT5, r_mkF5, r_mkM5, r_fld, r_gfld, r_isx, r_isxE, r_isxN, r_bcnt, r_catX, r_rai, r_tryk, r_tryN, r_tryR, r_tryX, r_oxc, r_bindX, sq_t, sq_f, q_seq, q_src, q_len, q_tup, q_list, q_asg, q_pur, q_srt, q_srl, optV_n, optV_s, tab_kid, at_rng hi, tab_row hi, row_at hk, h1, if_false, Bool.false_eq_true]
  | some a =>
    cases h2 : M k j with
    | none =>
      rw [h1, h2] at hv
      refine ⟨o7, ?_⟩
      rw [hv, upd2_id]
      simp only [bodyL, r_bind, r_assoc, r_lift, r_noX, r_var, r_lit, r_vvn, r_vvb, r_vvi, r_vvs, r_bin, r_neg, r_no, r_conj, r_disj, r_cmp, r_chain, r_ite, r_tup, r_lst, r_idx, r_sl, r_call, r_callk, r_bi, r_bm, r_comp, r_nil, r_cons, r_and1, r_and, r_or1, r_or, r_c0, r_c1, r_range, r_zip, r_enum, r_pl, r_s0, r_s, r_tnx, r_trt, r_tbk, r_tct, r_txc, r_cat, r_asg, r_sub, r_aug, r_expr, r_ret, r_ife, r_for, r_asgv, r_asgt, r_asgl, r_asg0, r_asgc, r_mapS, r_get0, r_gets, r_set0, r_sets, r_wip0, r_wip, r_trb, r_tri, r_ii, r_add, r_subi, r_gIdx, r_dcomp, r_scomp, r_sqt, r_sql, r_sqr, r_gCmp, r_lt, r_gt, r_le, r_ge, r_eqi, r_nei, r_isN, r_isI, r_inN, r_inI, r_neg', r_at0, r_at1, r_at2, r_ort, r_onx, r_lenl, r_lent, r_lenr, r_abs, r_intb, r_inti, r_max2, r_min2, r_tupt, r_tupl, r_tupr, r_listt, r_listl, r_listr, r_p6, r_p9, r_p11, r_p18, r_mkT0, r_mkF0, r_mkM0, r_mkT1, r_mkF1, r_mkM1, r_mkT2, r_mkF2, r_mkM2, r_mkT3, r_mkF3, r_mkM3, r_mkT4, r_mkF4, r_mkM4, r_mkT5, r_mkF5, r_mkM5, r_fld, r_gfld, r_isx, r_isxE, r_isxN, r_bcnt, r_catX, r_rai, r_tryk, r_tryN, r_tryR, r_tryX, r_oxc, r_bindX, sq_t, sq_f, q_seq, q_src, q_len, q_tup, q_list, q_asg, q_pur, q_srt, q_srl, optV_n, optV_s, tab_kid, at_rng hi, tab_row hi, row_at hk, h1, if_true, at_rng hk, tab_row hk, row_at hj, h2, if_false, Bool.false_eq_true]
    | some c =>
      rw [h1, h2] at hv
      dsimp only at hv
      refine ⟨some (.int (a + c)), ?_⟩
      cases h3 : M i j with
      | none =>
        rw [h3] at hv
        rw [hv]
        have ts := tab_set (s := s) (M := M) hi hj (some (a + c))
        rw [optV_s] at ts
        simp only [bodyL, r_bind, r_assoc, r_lift, r_noX, r_var, r_lit, r_vvn, r_vvb, r_vvi, r_vvs, r_bin, r_neg, r_no, r_conj, r_disj, r_cmp, r_chain, r_ite, r_tup, r_lst, r_idx, r_sl, r_call, r_callk, r_bi, r_bm, r_comp, r_nil, r_cons, r_and1, r_and, r_or1, r_or, r_c0, r_c1, r_range, r_zip, r_enum, r_pl, r_s0, r_s, r_tnx, r_trt, r_tbk, r_tct, r_txc, r_cat, r_asg, r_sub, r_aug, r_expr, r_ret, r_ife, r_for, r_asgv, r_asgt, r_asgl, r_asg0, r_asgc, r_mapS, r_get0, r_gets, r_set0, r_sets, r_wip0, r_wip, r_trb, r_tri, r_ii, r_add, r_subi, r_gIdx, r_dcomp, r_scomp, r_sqt, r_sql, r_sqr, r_gCmp, r_lt, r_gt, r_le, r_ge, r_eqi, r_nei, r_isN, r_isI, r_inN, r_inI, r_neg', r_at0, r_at1, r_at2, r_ort, r_onx, r_lenl, r_lent, r_lenr, r_abs, r_intb, r_inti, r_max2, r_min2, r_tupt, r_tupl, r_tupr, r_listt, r_listl, r_listr, r_p6, r_p9, r_p11, r_p18, r_mkT0, r_mkF0, r_mkM0, r_mkT1, r_mkF1, r_mkM1, r_mkT2, r_mkF2, r_mkM2, r_mkT3, r_mkF3, r_mkM3, r_mkT4, r_mkF4, r_mkM4, r_mkT5, r_mkF5, r_mkM5, r_fld, r_gfld, r_isx, r_isxE, r_isxN, r_bcnt, r_catX, r_rai, r_tryk, r_tryN, r_tryR, r_tryX, r_oxc, r_bindX, sq_t, sq_f, q_seq, q_src, q_len, q_tup, q_list, q_asg, q_pur, q_srt, q_srl, optV_n, optV_s, tab_kid, at_rng hi, tab_row hi, row_at hk, h1, if_true, at_rng hk, tab_row hk, row_at hj, h2, h3, ts]
      | some d =>
        rw [h3] at hv
        dsimp only at hv
        by_cases hlt : a + c < d
        · rw [if_pos hlt] at hv
          rw [hv]
          have ts := tab_set (s := s) (M := M) hi hj (some (a + c))
          rw [optV_s] at ts
          simp only [bodyL, r_bind, r_assoc, r_lift, r_noX, r_var, r_lit, r_vvn, r_vvb, r_vvi, r_vvs, r_bin, r_neg, r_no, r_conj, r_disj, r_cmp, r_chain, r_ite, r_tup, r_lst, r_idx, r_sl, r_call, r_callk, r_bi, r_bm, r_comp, r_nil, r_cons, r_and1, r_and, r_or1, r_or, r_c0, r_c1, r_range, r_zip, r_enum, r_pl, r_s0, r_s, r_tnx, r_trt, r_tbk, r_tct, r_txc, r_cat, r_asg, r_sub, r_aug, r_expr, r_ret, r_ife, r_for, r_asgv, r_asgt, r_asgl, r_asg0, r_asgc, r_mapS, r_get0, r_gets, r_set0, r_sets, r_wip0, r_wip, r_trb, r_tri, r_ii, r_add, r_subi, r_gIdx, r_dcomp, r_scomp, r_sqt, r_sql, r_sqr, r_gCmp, r_lt, r_gt, r_le, r_ge, r_eqi, r_nei, r_isN, r_isI, r_inN, r_inI, r_neg', r_at0, r_at1, r_at2, r_ort, r_onx, r_lenl, r_lent, r_lenr, r_abs, r_intb, r_inti, r_max2, r_min2, r_tupt, r_tupl, r_tupr, r_listt, r_listl, r_listr, r_p6, r_p9, r_p11, r_p18, r_mkT0, r_mkF0, r_mkM0, r_mkT1, r_mkF1, r_mkM1, r_mkT2, r_mkF2, r_mkM2, r_mkT3, r_mkF3, r_mkM3, r_mkT4, r_mkF4, r_mkM4, r_mkT5, r_mkF5, r_mkM5, r_fld, r_gfld, r_isx, r_isxE, r_isxN, r_bcnt, r_catX, r_rai, r_tryk, r_tryN, r_tryR, r_tryX, r_oxc, r_bindX, sq_t, sq_f, q_seq, q_src, q_len, q_tup, q_list, q_asg, q_pur, q_srt, q_srl, optV_n, optV_s, tab_kid, at_rng hi, tab_row hi, row_at hk, h1, if_true, at_rng hk, tab_row hk, row_at hj, h2, h3, if_false, Bool.false_eq_true, hlt, decide_true, ts]
        · rw [if_neg hlt, ← h3] at hv
          rw [hv, upd2_id]
          simp only [bodyL, r_bind, r_assoc, r_lift, r_noX, r_var, r_lit, r_vvn, r_vvb, r_vvi, r_vvs, r_bin, r_neg, r_no, r_conj, r_disj, r_cmp, r_chain, r_ite, r_tup, r_lst, r_idx, r_sl, r_call, r_callk, r_bi, r_bm, r_comp, r_nil, r_cons, r_and1, r_and, r_or1, r_or, r_c0, r_c1, r_range, r_zip, r_enum, r_pl, r_s0, r_s, r_tnx, r_trt, r_tbk, r_tct, r_txc, r_cat, r_asg, r_sub, r_aug, r_expr, r_ret, r_ife, r_for, r_asgv, r_asgt, r_asgl, r_asg0, r_asgc, r_mapS, r_get0, r_gets, r_set0, r_sets, r_wip0, r_wip, r_trb, r_tri, r_ii, r_add, r_subi, r_gIdx, r_dcomp, r_scomp, r_sqt, r_sql, r_sqr, r_gCmp, r_lt, r_gt, r_le, r_ge, r_eqi, r_nei, r_isN, r_isI, r_inN, r_inI, r_neg', r_at0, r_at1, r_at2, r_ort, r_onx, r_lenl, r_lent, r_lenr, r_abs, r_intb, r_inti, r_max2, r_min2, r_tupt, r_tupl, r_tupr, r_listt, r_listl, r_listr, r_p6, r_p9, r_p11, r_p18, r_mkT0, r_mkF0, r_mkM0, r_mkT1, r_mkF1, r_mkM1, r_mkT2, r_mkF2, r_mkM2, r_mkT3, r_mkF3, r_mkM3, r_mkT4, r_mkF4, r_mkM4, r_mkT5, r_mkF5, r_mkM5, r_fld, r_gfld, r_isx, r_isxE, r_isxN, r_bcnt, r_catX, r_rai, r_tryk, r_tryN, r_tryR, r_tryX, r_oxc, r_bindX, sq_t, sq_f, q_seq, q_src, q_len, q_tup, q_list, q_asg, q_pur, q_srt, q_srl, optV_n, optV_s, tab_kid, at_rng hi, tab_row hi, row_at hk, h1, if_true, at_rng hk, tab_row hk, row_at hj, h2, h3, if_false, Bool.false_eq_true, hlt, decide_false]
/-- as far as boat i's j-th entry -/
def asfar (k i j : Nat) (M : Tab) : Tab := fun a b => if a < i ∨ (a = i ∧ b < j) then via k M a b else M a b
theorem asfar_step {F : Sea} {k k' i j : Nat} {M : Tab} (ok : F.Ok) (h : Half F k' M) (hk : k < F.n) (hi : i < F.n) (hj : j < F.n) : upd2 (asfar k i j M) i j (via k (asfar k i j M) i j) = asfar k i (j + 1) M := by
  have e1 : asfar k i j M i k = M i k := by
    unfold asfar
    split
    · exact via_col ok h hk hi
    · rfl
  have e2 : asfar k i j M k j = M k j := by
    unfold asfar
    split
    · exact via_row ok h hk hj
    · rfl
  have e3 : asfar k i j M i j = M i j := if_neg (by omega)
  have e : via k (asfar k i j M) i j = via k M i j := by
    show (match asfar k i j M i k, asfar k i j M k j with
      | some a, some b => (match asfar k i j M i j with
        | none => some (a + b)
        | some c => if a + b < c then some (a + b) else some c)
      | _, _ => asfar k i j M i j) = _
    rw [e1, e2, e3]
    rfl
  rw [e]
  funext a b
  unfold upd2 asfar
  by_cases h1 : a = i ∧ b = j
  · rw [if_pos h1, if_pos (by omega), h1.1, h1.2]
  · rw [if_neg h1]
    by_cases h2 : a < i ∨ (a = i ∧ b < j)
    · rw [if_pos h2, if_pos (by omega)]
    · rw [if_neg h2, if_neg (by omega)]
theorem rngs {n : Nat} (hn : n ≤ 64) : ((n : Nat) : Int) < 2 ^ 62 := by omega
abbrev sgL (x0 : VV) (n t : Nat) (o2 o3 o5 o6 o7 : Option VV) : Sv := [some x0, some (.int n), o2, o3, some (.ref t), o5, o6, o7]
theorem loopJ {F : Sea} (ok : F.Ok) {cl : Cl} {k k' i : Nat} {M : Tab} (h : Half F k' M) (hk : k < F.n) (hi : i < F.n) (x0 : VV) (o2 o5 o7 : Option VV) :
    ∃ o2' o7', exs cl [.forr (.var 2) (.range [(.var 1)]) bodyL] (sgL x0 F.n (s.length + F.n) o2 (some (.int i)) o5 (some (.int k)) o7) (tabS s F.n (asfar k i 0 M)) =
      .ok (.nx (sgL x0 F.n (s.length + F.n) o2' (some (.int i)) o5 (some (.int k)) o7')) (tabS s F.n (asfar k (i + 1) 0 M)) := by
  have go := forL_ok (step := stepF cl (.var 2) bodyL) (fun j σ S => ∃ o2 o7, σ = sgL x0 F.n (s.length + F.n) o2 (some (.int i)) o5 (some (.int k)) o7 ∧ S = tabS s F.n (asfar k i j M))
    ((List.range F.n).map fun (j : Nat) => VV.int j) _ _ 0 ⟨o2, o7, rfl, rfl⟩ fun j x σ S hx hI => by
      obtain ⟨hj, rfl⟩ := range_at hx
      obtain ⟨o2, o7, rfl, rfl⟩ := hI
      rw [Nat.zero_add]
      obtain ⟨o7', e⟩ := body_ok (s := s) (cl := cl) (M := asfar k i j M) hk hi hj x0 o2 o5 o7
      rw [asfar_step ok h hk hi hj] at e
      exact ⟨_, _, e, some (.int j), o7', rfl, rfl⟩
  obtain ⟨σ', S', e, o2', o7', rfl, rfl⟩ := go
  refine ⟨o2', o7', ?_⟩
  simp only [r_bind, r_assoc, r_lift, r_noX, r_var, r_lit, r_vvn, r_vvb, r_vvi, r_vvs, r_bin, r_neg, r_no, r_conj, r_disj, r_cmp, r_chain, r_ite, r_tup, r_lst, r_idx, r_sl, r_call, r_callk, r_bi, r_bm, r_comp, r_nil, r_cons, r_and1, r_and, r_or1, r_or, r_c0, r_c1, r_range, r_zip, r_enum, r_pl, r_s0, r_s, r_tnx, r_trt, r_tbk, r_tct, r_txc, r_cat, r_asg, r_sub, r_aug, r_expr, r_ret, r_ife, r_for, r_asgv, r_asgt, r_asgl, r_asg0, r_asgc, r_mapS, r_get0, r_gets, r_set0, r_sets, r_wip0, r_wip, r_trb, r_tri, r_ii, r_add, r_subi, r_gIdx, r_dcomp, r_scomp, r_sqt, r_sql, r_sqr, r_gCmp, r_lt, r_gt, r_le, r_ge, r_eqi, r_nei, r_isN, r_isI, r_inN, r_inI, r_neg', r_at0, r_at1, r_at2, r_ort, r_onx, r_lenl, r_lent, r_lenr, r_abs, r_intb, r_inti, r_max2, r_min2, r_tupt, r_tupl, r_tupr, r_listt, r_listl, r_listr, r_p6, r_p9, r_p11, r_p18, r_mkT0, r_mkF0, r_mkM0, r_mkT1, r_mkF1, r_mkM1, r_mkT2, r_mkF2, r_mkM2, r_mkT3, r_mkF3, r_mkM3, r_mkT4, r_mkF4, r_mkM4, r_mkT5, r_mkF5, r_mkM5, r_fld, r_gfld, r_isx, r_isxE, r_isxN, r_bcnt, r_catX, r_rai, r_tryk, r_tryN, r_tryR, r_tryX, r_oxc, r_bindX, sq_t, sq_f, q_seq, q_src, q_len, q_tup, q_list, q_asg, q_pur, q_srt, q_srl, optV_n, optV_s, sgL, rng_nat (rngs ok.few)]
  rw [List.length_map, List.length_range, Nat.zero_add] at e
  rw [e]
  simp only [r_bind, r_assoc, r_lift, r_noX, r_var, r_lit, r_vvn, r_vvb, r_vvi, r_vvs, r_bin, r_neg, r_no, r_conj, r_disj, r_cmp, r_chain, r_ite, r_tup, r_lst, r_idx, r_sl, r_call, r_callk, r_bi, r_bm, r_comp, r_nil, r_cons, r_and1, r_and, r_or1, r_or, r_c0, r_c1, r_range, r_zip, r_enum, r_pl, r_s0, r_s, r_tnx, r_trt, r_tbk, r_tct, r_txc, r_cat, r_asg, r_sub, r_aug, r_expr, r_ret, r_ife, r_for, r_asgv, r_asgt, r_asgl, r_asg0, r_asgc, r_mapS, r_get0, r_gets, r_set0, r_sets, r_wip0, r_wip, r_trb, r_tri, r_ii, r_add, r_subi, r_gIdx, r_dcomp, r_scomp, r_sqt, r_sql, r_sqr, r_gCmp, r_lt, r_gt, r_le, r_ge, r_eqi, r_nei, r_isN, r_isI, r_inN, r_inI, r_neg', r_at0, r_at1, r_at2, r_ort, r_onx, r_lenl, r_lent, r_lenr, r_abs, r_intb, r_inti, r_max2, r_min2, r_tupt, r_tupl, r_tupr, r_listt, r_listl, r_listr, r_p6, r_p9, r_p11, r_p18, r_mkT0, r_mkF0, r_mkM0, r_mkT1, r_mkF1, r_mkM1, r_mkT2, r_mkF2, r_mkM2, r_mkT3, r_mkF3, r_mkM3, r_mkT4, r_mkF4, r_mkM4, r_mkT5, r_mkF5, r_mkM5, r_fld, r_gfld, r_isx, r_isxE, r_isxN, r_bcnt, r_catX, r_rai, r_tryk, r_tryN, r_tryR, r_tryX, r_oxc, r_bindX, sq_t, sq_f, q_seq, q_src, q_len, q_tup, q_list, q_asg, q_pur, q_srt, q_srl, optV_n, optV_s]
  congr 1
  refine tab_congr fun a b ha hb => ?_
  unfold asfar
  by_cases q : a < i + 1 ∨ (a = i + 1 ∧ b < 0)
  · rw [if_pos q, if_pos (by omega)]
  · rw [if_neg q, if_neg (by omega)]
theorem loopI {F : Sea} (ok : F.Ok) {cl : Cl} {k k' : Nat} {M : Tab} (h : Half F k' M) (hk : k < F.n) (x0 : VV) (o2 o3 o5 o7 : Option VV) :
    ∃ o2' o3' o7', exs cl [.forr (.var 3) (.range [(.var 1)]) [.forr (.var 2) (.range [(.var 1)]) bodyL]] (sgL x0 F.n (s.length + F.n) o2 o3 o5 (some (.int k)) o7) (tabS s F.n M) =
      .ok (.nx (sgL x0 F.n (s.length + F.n) o2' o3' o5 (some (.int k)) o7')) (tabS s F.n (via k M)) := by
  have e0 : tabS s F.n M = tabS s F.n (asfar k 0 0 M) := tab_congr fun a b _ _ => (if_neg (by omega)).symm
  rw [e0]
  have go := forL_ok (step := stepF cl (.var 3) [.forr (.var 2) (.range [(.var 1)]) bodyL]) (fun i σ S => ∃ o2 o3 o7, σ = sgL x0 F.n (s.length + F.n) o2 o3 o5 (some (.int k)) o7 ∧ S = tabS s F.n (asfar k i 0 M))
    ((List.range F.n).map fun (j : Nat) => VV.int j) _ _ 0 ⟨o2, o3, o7, rfl, rfl⟩ fun i x σ S hx hI => by
      obtain ⟨hi, rfl⟩ := range_at hx
      obtain ⟨o2, o3, o7, rfl, rfl⟩ := hI
      rw [Nat.zero_add]
      obtain ⟨o2', o7', e⟩ := loopJ (s := s) (cl := cl) ok h hk hi x0 o2 o5 o7
      exact ⟨_, _, e, o2', some (.int i), o7', rfl, rfl⟩
  obtain ⟨σ', S', e, o2', o3', o7', rfl, rfl⟩ := go
  refine ⟨o2', o3', o7', ?_⟩
  rw [List.length_map, List.length_range, Nat.zero_add] at e
  simp only [r_bind, r_assoc, r_lift, r_noX, r_var, r_lit, r_vvn, r_vvb, r_vvi, r_vvs, r_bin, r_neg, r_no, r_conj, r_disj, r_cmp, r_chain, r_ite, r_tup, r_lst, r_idx, r_sl, r_call, r_callk, r_bi, r_bm, r_comp, r_nil, r_cons, r_and1, r_and, r_or1, r_or, r_c0, r_c1, r_range, r_zip, r_enum, r_pl, r_s0, r_s, r_tnx, r_trt, r_tbk, r_tct, r_txc, r_cat, r_asg, r_sub, r_aug, r_expr, r_ret, r_ife, r_for, r_asgv, r_asgt, r_asgl, r_asg0, r_asgc, r_mapS, r_get0, r_gets, r_set0, r_sets, r_wip0, r_wip, r_trb, r_tri, r_ii, r_add, r_subi, r_gIdx, r_dcomp, r_scomp, r_sqt, r_sql, r_sqr, r_gCmp, r_lt, r_gt, r_le, r_ge, r_eqi, r_nei, r_isN, r_isI, r_inN, r_inI, r_neg', r_at0, r_at1, r_at2, r_ort, r_onx, r_lenl, r_lent, r_lenr, r_abs, r_intb, r_inti, r_max2, r_min2, r_tupt, r_tupl, r_tupr, r_listt, r_listl, r_listr, r_p6, r_p9, r_p11, r_p18, r_mkT0, r_mkF0, r_mkM0, r_mkT1, r_mkF1, r_mkM1, r_mkT2, r_mkF2, r_mkM2, r_mkT3, r_mkF3, r_mkM3, r_mkT4, r_mkF4, r_mkM4, r_mkT5, r_mkF5, r_mkM5, r_fld, r_gfld, r_isx, r_isxE, r_isxN, r_bcnt, r_catX, r_rai, r_tryk, r_tryN, r_tryR, r_tryX, r_oxc, r_bindX, sq_t, sq_f, q_seq, q_src, q_len, q_tup, q_list, q_asg, q_pur, q_srt, q_srl, optV_n, optV_s, sgL, rng_nat (rngs ok.few)]
  rw [e]
  simp only [r_bind, r_assoc, r_lift, r_noX, r_var, r_lit, r_vvn, r_vvb, r_vvi, r_vvs, r_bin, r_neg, r_no, r_conj, r_disj, r_cmp, r_chain, r_ite, r_tup, r_lst, r_idx, r_sl, r_call, r_callk, r_bi, r_bm, r_comp, r_nil, r_cons, r_and1, r_and, r_or1, r_or, r_c0, r_c1, r_range, r_zip, r_enum, r_pl, r_s0, r_s, r_tnx, r_trt, r_tbk, r_tct, r_txc, r_cat, r_asg, r_sub, r_aug, r_expr, r_ret, r_ife, r_for, r_asgv, r_asgt, r_asgl, r_asg0, r_asgc, r_mapS, r_get0, r_gets, r_set0, r_sets, r_wip0, r_wip, r_trb, r_tri, r_ii, r_add, r_subi, r_gIdx, r_dcomp, r_scomp, r_sqt, r_sql, r_sqr, r_gCmp, r_lt, r_gt, r_le, r_ge, r_eqi, r_nei, r_isN, r_isI, r_inN, r_inI, r_neg', r_at0, r_at1, r_at2, r_ort, r_onx, r_lenl, r_lent, r_lenr, r_abs, r_intb, r_inti, r_max2, r_min2, r_tupt, r_tupl, r_tupr, r_listt, r_listl, r_listr, r_p6, r_p9, r_p11, r_p18, r_mkT0, r_mkF0, r_mkM0, r_mkT1, r_mkF1, r_mkM1, r_mkT2, r_mkF2, r_mkM2, r_mkT3, r_mkF3, r_mkM3, r_mkT4, r_mkF4, r_mkM4, r_mkT5, r_mkF5, r_mkM5, r_fld, r_gfld, r_isx, r_isxE, r_isxN, r_bcnt, r_catX, r_rai, r_tryk, r_tryN, r_tryR, r_tryX, r_oxc, r_bindX, sq_t, sq_f, q_seq, q_src, q_len, q_tup, q_list, q_asg, q_pur, q_srt, q_srl, optV_n, optV_s]
  congr 1
  exact tab_congr fun a b ha hb => if_pos (.inl ha)
theorem loopK {F : Sea} (ok : F.Ok) {cl : Cl} (x0 : VV) (o2 o3 o5 o6 o7 : Option VV) :
    ∃ σ', forL [] (stepF cl (.var 6) [.forr (.var 3) (.range [(.var 1)]) [.forr (.var 2) (.range [(.var 1)]) bodyL]]) ((List.range F.n).map fun (j : Nat) => VV.int j) (sgL x0 F.n (s.length + F.n) o2 o3 o5 o6 o7) (tabS s F.n (first F)) =
      .ok (.nx σ') (tabS s F.n (lead F)) ∧ ∃ o2 o3 o5 o6 o7, σ' = sgL x0 F.n (s.length + F.n) o2 o3 o5 o6 o7 := by
  have go := forL_ok (step := stepF cl (.var 6) [.forr (.var 3) (.range [(.var 1)]) [.forr (.var 2) (.range [(.var 1)]) bodyL]]) (fun k σ S => ∃ o2 o3 o5 o6 o7, σ = sgL x0 F.n (s.length + F.n) o2 o3 o5 o6 o7 ∧ S = tabS s F.n (leadK F k))
    ((List.range F.n).map fun (j : Nat) => VV.int j) (sgL x0 F.n (s.length + F.n) o2 o3 o5 o6 o7) (tabS s F.n (first F)) 0 ⟨o2, o3, o5, o6, o7, rfl, rfl⟩ fun k x σ S hx hI => by
      obtain ⟨hk, rfl⟩ := range_at hx
      obtain ⟨o2, o3, o5, o6, o7, rfl, rfl⟩ := hI
      rw [Nat.zero_add]
      obtain ⟨o2', o3', o7', e⟩ := loopI (s := s) (cl := cl) ok (leadK_half ok k (by omega)) hk x0 o2 o3 o5 o7
      exact ⟨_, _, e, o2', o3', o5, some (.int k), o7', rfl, rfl⟩
  obtain ⟨σ', S', e, o2', o3', o5', o6', o7', rfl, rfl⟩ := go
  rw [List.length_map, List.length_range, Nat.zero_add] at e
  exact ⟨_, e, o2', o3', o5', o6', o7', rfl⟩
/-- the empty table, made row by row -/
theorem comp_ok {cl : Cl} {n : Nat} (hn : n ≤ 64) (x0 : VV) (o2 o3 o4 o5 o6 o7 : Option VV) :
    ev cl (.comp true (.comp true (.ite (.cmp .eq (.var 3) (.var 2)) (.lit (.int 0)) (.lit .non)) (.var 2) (.range [(.var 1)]) [] [2]) (.var 3) (.range [(.var 1)]) [] [3]) [some x0, some (.int n), o2, o3, o4, o5, o6, o7] s =
      .ok (.ref (s.length + n)) (tabS s n fun a b => if a = b then some 0 else none) := by
  have hm : ∀ (i : Nat), (List.range n).map (fun (j : Nat) => if (i : Int) = (j : Int) then VV.int 0 else VV.non) = rowV n (fun a b => if a = b then some 0 else none) i := fun i => by
    unfold rowV
    apply List.map_congr_left
    intro j _
    by_cases h : i = j
    · subst h; simp [optV]
    · rw [if_neg (by omega)]
      show VV.non = optV (if i = j then some 0 else none)
      rw [if_neg h]
      rfl
  have row : ∀ (i : Nat) (S : Hs), ev cl (.comp true (.ite (.cmp .eq (.var 3) (.var 2)) (.lit (.int 0)) (.lit .non)) (.var 2) (.range [(.var 1)]) [] [2]) [some x0, some (.int n), o2, some (.int i), o4, o5, o6, o7] S =
      .ok (.ref S.length) (S ++ [.lst (rowV n (fun a b => if a = b then some 0 else none) i)]) := fun i S => by
    have c : compL [] (stepC cl (.ite (.cmp .eq (.var 3) (.var 2)) (.lit (.int 0)) (.lit .non)) (.var 2) [] [2] [some x0, some (.int n), o2, some (.int i), o4, o5, o6, o7]) ((List.range n).map fun (j : Nat) => VV.int j) S =
        .ok ((List.range n).map fun (j : Nat) => if (i : Int) = (j : Int) then VV.int 0 else VV.non) S := compL_map rfl fun j _ => by
      simp only [stepC, r_bind, r_assoc, r_lift, r_noX, r_var, r_lit, r_vvn, r_vvb, r_vvi, r_vvs, r_bin, r_neg, r_no, r_conj, r_disj, r_cmp, r_chain, r_ite, r_tup, r_lst, r_idx, r_sl, r_call, r_callk, r_bi, r_bm, r_comp, r_nil, r_cons, r_and1, r_and, r_or1, r_or, r_c0, r_c1, r_range, r_zip, r_enum, r_pl, r_s0, r_s, r_tnx, r_trt, r_tbk, r_tct, r_txc, r_cat, r_asg, r_sub, r_aug, r_expr, r_ret, r_ife, r_for, r_asgv, r_asgt, r_asgl, r_asg0, r_asgc, r_mapS, r_get0, r_gets, r_set0, r_sets, r_wip0, r_wip, r_trb, r_tri, r_ii, r_add, r_subi, r_gIdx, r_dcomp, r_scomp, r_sqt, r_sql, r_sqr, r_gCmp, r_lt, r_gt, r_le, r_ge, r_eqi, r_nei, r_isN, r_isI, r_inN, r_inI, r_neg', r_at0, r_at1, r_at2, r_ort, r_onx, r_lenl, r_lent, r_lenr, r_abs, r_intb, r_inti, r_max2, r_min2, r_tupt, r_tupl, r_tupr, r_listt, r_listl, r_listr, r_p6, r_p9, r_p11, r_p18, r_mkT0, r_mkF0, r_mkM0, r_mkT1, r_mkF1, r_mkM1, r_mkT2, r_mkF2, r_mkM2, r_mkT3, r_mkF3, r_mkM3, r_mkT4, r_mkF4, r_mkM4, r_mkT5, r_mkF5, r_mkM5, r_fld, r_gfld, r_isx, r_isxE, r_isxN, r_bcnt, r_catX, r_rai, r_tryk, r_tryN, r_tryR, r_tryX, r_oxc, r_bindX, sq_t, sq_f, q_seq, q_src, q_len, q_tup, q_list, q_asg, q_pur, q_srt, q_srl, optV_n, optV_s, if_true]
      by_cases h : (i : Int) = (j : Int)
      · simp only [h, decide_true, if_true, r_bind, r_assoc, r_lift, r_noX, r_var, r_lit, r_vvn, r_vvb, r_vvi, r_vvs, r_bin, r_neg, r_no, r_conj, r_disj, r_cmp, r_chain, r_ite, r_tup, r_lst, r_idx, r_sl, r_call, r_callk, r_bi, r_bm, r_comp, r_nil, r_cons, r_and1, r_and, r_or1, r_or, r_c0, r_c1, r_range, r_zip, r_enum, r_pl, r_s0, r_s, r_tnx, r_trt, r_tbk, r_tct, r_txc, r_cat, r_asg, r_sub, r_aug, r_expr, r_ret, r_ife, r_for, r_asgv, r_asgt, r_asgl, r_asg0, r_asgc, r_mapS, r_get0, r_gets, r_set0, r_sets, r_wip0, r_wip, r_trb, r_tri, r_ii, r_add, r_subi, r_gIdx, r_dcomp, r_scomp, r_sqt, r_sql, r_sqr, r_gCmp, r_lt, r_gt, r_le, r_ge, r_eqi, r_nei, r_isN, r_isI, r_inN, r_inI, r_neg', r_at0, r_at1, r_at2, r_ort, r_onx, r_lenl, r_lent, r_lenr, r_abs, r_intb, r_inti, r_max2, r_min2, r_tupt, r_tupl, r_tupr, r_listt, r_listl, r_listr, r_p6, r_p9, r_p11, r_p18, r_mkT0, r_mkF0, r_mkM0, r_mkT1, r_mkF1, r_mkM1, r_mkT2, r_mkF2, r_mkM2, r_mkT3, r_mkF3, r_mkM3, r_mkT4, r_mkF4, r_mkM4, r_mkT5, r_mkF5, r_mkM5, r_fld, r_gfld, r_isx, r_isxE, r_isxN, r_bcnt, r_catX, r_rai, r_tryk, r_tryN, r_tryR, r_tryX, r_oxc, r_bindX, sq_t, sq_f, q_seq, q_src, q_len, q_tup, q_list, q_asg, q_pur, q_srt, q_srl, optV_n, optV_s]
      · simp only [h, decide_false, if_false, Bool.false_eq_true, r_bind, r_assoc, r_lift, r_noX, r_var, r_lit, r_vvn, r_vvb, r_vvi, r_vvs, r_bin, r_neg, r_no, r_conj, r_disj, r_cmp, r_chain, r_ite, r_tup, r_lst, r_idx, r_sl, r_call, r_callk, r_bi, r_bm, r_comp, r_nil, r_cons, r_and1, r_and, r_or1, r_or, r_c0, r_c1, r_range, r_zip, r_enum, r_pl, r_s0, r_s, r_tnx, r_trt, r_tbk, r_tct, r_txc, r_cat, r_asg, r_sub, r_aug, r_expr, r_ret, r_ife, r_for, r_asgv, r_asgt, r_asgl, r_asg0, r_asgc, r_mapS, r_get0, r_gets, r_set0, r_sets, r_wip0, r_wip, r_trb, r_tri, r_ii, r_add, r_subi, r_gIdx, r_dcomp, r_scomp, r_sqt, r_sql, r_sqr, r_gCmp, r_lt, r_gt, r_le, r_ge, r_eqi, r_nei, r_isN, r_isI, r_inN, r_inI, r_neg', r_at0, r_at1, r_at2, r_ort, r_onx, r_lenl, r_lent, r_lenr, r_abs, r_intb, r_inti, r_max2, r_min2, r_tupt, r_tupl, r_tupr, r_listt, r_listl, r_listr, r_p6, r_p9, r_p11, r_p18, r_mkT0, r_mkF0, r_mkM0, r_mkT1, r_mkF1, r_mkM1, r_mkT2, r_mkF2, r_mkM2, r_mkT3, r_mkF3, r_mkM3, r_mkT4, r_mkF4, r_mkM4, r_mkT5, r_mkF5, r_mkM5, r_fld, r_gfld, r_isx, r_isxE, r_isxN, r_bcnt, r_catX, r_rai, r_tryk, r_tryN, r_tryR, r_tryX, r_oxc, r_bindX, sq_t, sq_f, q_seq, q_src, q_len, q_tup, q_list, q_asg, q_pur, q_srt, q_srl, optV_n, optV_s]
    have mk : mkL true (rowV n (fun a b => if a = b then some 0 else none) i) S = .ok (.ref S.length) (S ++ [.lst (rowV n (fun a b => if a = b then some 0 else none) i)]) := mkL_t (by unfold rowV; rw [List.length_map, List.length_range]; exact sz_of (by omega))
    simp only [r_bind, r_assoc, r_lift, r_noX, r_var, r_lit, r_vvn, r_vvb, r_vvi, r_vvs, r_bin, r_neg, r_no, r_conj, r_disj, r_cmp, r_chain, r_ite, r_tup, r_lst, r_idx, r_sl, r_call, r_callk, r_bi, r_bm, r_comp, r_nil, r_cons, r_and1, r_and, r_or1, r_or, r_c0, r_c1, r_range, r_zip, r_enum, r_pl, r_s0, r_s, r_tnx, r_trt, r_tbk, r_tct, r_txc, r_cat, r_asg, r_sub, r_aug, r_expr, r_ret, r_ife, r_for, r_asgv, r_asgt, r_asgl, r_asg0, r_asgc, r_mapS, r_get0, r_gets, r_set0, r_sets, r_wip0, r_wip, r_trb, r_tri, r_ii, r_add, r_subi, r_gIdx, r_dcomp, r_scomp, r_sqt, r_sql, r_sqr, r_gCmp, r_lt, r_gt, r_le, r_ge, r_eqi, r_nei, r_isN, r_isI, r_inN, r_inI, r_neg', r_at0, r_at1, r_at2, r_ort, r_onx, r_lenl, r_lent, r_lenr, r_abs, r_intb, r_inti, r_max2, r_min2, r_tupt, r_tupl, r_tupr, r_listt, r_listl, r_listr, r_p6, r_p9, r_p11, r_p18, r_mkT0, r_mkF0, r_mkM0, r_mkT1, r_mkF1, r_mkM1, r_mkT2, r_mkF2, r_mkM2, r_mkT3, r_mkF3, r_mkM3, r_mkT4, r_mkF4, r_mkM4, r_mkT5, r_mkF5, r_mkM5, r_fld, r_gfld, r_isx, r_isxE, r_isxN, r_bcnt, r_catX, r_rai, r_tryk, r_tryN, r_tryR, r_tryX, r_oxc, r_bindX, sq_t, sq_f, q_seq, q_src, q_len, q_tup, q_list, q_asg, q_pur, q_srt, q_srl, optV_n, optV_s, rng_nat (rngs hn), c, hm, mk]
  have go := compL_ok (step := stepC cl (.comp true (.ite (.cmp .eq (.var 3) (.var 2)) (.lit (.int 0)) (.lit .non)) (.var 2) (.range [(.var 1)]) [] [2]) (.var 3) [] [3] [some x0, some (.int n), o2, o3, o4, o5, o6, o7])
    (fun i acc S => i ≤ n ∧ acc = (List.range i).map (fun i => .ref (s.length + i)) ∧ S = s ++ (List.range i).map fun i => Ob.lst (rowV n (fun a b => if a = b then some 0 else none) i))
    ((List.range n).map fun (j : Nat) => VV.int j) [] s 0 ⟨Nat.zero_le _, rfl, by simp⟩ fun i x acc S hx hI => by
      obtain ⟨hi, rfl⟩ := range_at hx
      rw [Nat.zero_add] at hI ⊢
      obtain ⟨_, rfl, rfl⟩ := hI
      have e1 := row i (s ++ (List.range i).map fun i => Ob.lst (rowV n (fun a b => if a = b then some 0 else none) i))
      have e2 := stepC_v (cl := cl) (σ := [some x0, some (.int n), o2, o3, o4, o5, o6, o7]) (s := s ++ (List.range i).map fun i => Ob.lst (rowV n (fun a b => if a = b then some 0 else none) i))
        (.comp true (.ite (.cmp .eq (.var 3) (.var 2)) (.lit (.int 0)) (.lit .non)) (.var 2) (.range [(.var 1)]) [] [2]) 3 [3] (.int i)
      simp only [r_wip, r_wip0, r_sets, r_set0] at e2
      rw [e1] at e2
      refine ⟨_, _, e2, by omega, ?_, ?_⟩
      · rw [List.range_succ, List.map_append]
        simp
      · rw [List.range_succ, List.map_append]
        simp
  obtain ⟨rs, S', e, _, h1, h2⟩ := go
  rw [List.length_map, List.length_range, Nat.zero_add] at h1 h2
  rw [List.nil_append] at h1
  subst h1 h2
  have mk : ∀ S, mkL true ((List.range n).map fun i => VV.ref (s.length + i)) S = .ok (.ref S.length) (S ++ [.lst ((List.range n).map fun i => VV.ref (s.length + i))]) := fun S => mkL_t (by rw [List.length_map, List.length_range]; exact sz_of (by omega))
  rw [r_comp]
  simp only [r_range, r_cons, r_nil, r_var, r_gets, r_get0, r_bind, rng_nat (rngs hn), e, r_noX, mk]
  congr 1
  · simp
  · unfold tabS
    rw [List.append_assoc]
theorem leads_ok {P : Pg} (hP : P "_law_leads" = some fn__law_leads) {F : Sea} (ok : F.Ok) (n : Nat) : callF P (n + 1) false "_law_leads" [seaV b F] s = .ok (tabV F.n (lead F)) s := by
  rw [callF_run hP rfl]
  have c := comp_ok (s := s) (cl := callF P n) ok.few (seaV b F) none none none none none none
  have go := forL_ok (step := stepF (callF P n) (.tup [(.var 3), (.var 2), (.var 5)]) [.sub (.idx (.var 4) (.var 3)) (.var 2) (.var 5)])
    (fun i σ S => ∃ o2 o3 o5, σ = sgL (seaV b F) F.n (s.length + F.n) o2 o3 o5 none none ∧ S = tabS s F.n ((F.ropes.take i).foldl (fun M r => upd2 M r.1 r.2.1 (some r.2.2)) fun a b => if a = b then some 0 else none))
    (F.ropes.map (ropeV b)) (sgL (seaV b F) F.n (s.length + F.n) none none none none none) (tabS s F.n fun a b => if a = b then some 0 else none) 0 ⟨none, none, none, rfl, rfl⟩ fun i x σ S hx hI => by
      obtain ⟨r, hr, rfl⟩ := map_at hx
      rw [Nat.zero_add] at hI ⊢
      obtain ⟨o2, o3, o5, rfl, rfl⟩ := hI
      have hm := List.mem_of_getElem? hr
      have l1 := ok.lt1 r hm
      have l2 := ok.lt2 r hm
      have ts := tab_set (s := s) (M := (F.ropes.take i).foldl (fun M r => upd2 M r.1 r.2.1 (some r.2.2)) fun a b => if a = b then some 0 else none) l1 l2 (some r.2.2)
      rw [optV_s] at ts
      refine ⟨_, _, ?_, some (.int r.2.1), some (.int r.1), some (.int r.2.2), rfl, rfl⟩
      unfold stepF ropeV
      simp only [r_bind, r_assoc, r_lift, r_noX, r_var, r_lit, r_vvn, r_vvb, r_vvi, r_vvs, r_bin, r_neg, r_no, r_conj, r_disj, r_cmp, r_chain, r_ite, r_tup, r_lst, r_idx, r_sl, r_call, r_callk, r_bi, r_bm, r_comp, r_nil, r_cons, r_and1, r_and, r_or1, r_or, r_c0, r_c1, r_range, r_zip, r_enum, r_pl, r_s0, r_s, r_tnx, r_trt, r_tbk, r_tct, r_txc, r_cat, r_asg, r_sub, r_aug, r_expr, r_ret, r_ife, r_for, r_asgv, r_asgt, r_asgl, r_asg0, r_asgc, r_mapS, r_get0, r_gets, r_set0, r_sets, r_wip0, r_wip, r_trb, r_tri, r_ii, r_add, r_subi, r_gIdx, r_dcomp, r_scomp, r_sqt, r_sql, r_sqr, r_gCmp, r_lt, r_gt, r_le, r_ge, r_eqi, r_nei, r_isN, r_isI, r_inN, r_inI, r_neg', r_at0, r_at1, r_at2, r_ort, r_onx, r_lenl, r_lent, r_lenr, r_abs, r_intb, r_inti, r_max2, r_min2, r_tupt, r_tupl, r_tupr, r_listt, r_listl, r_listr, r_p6, r_p9, r_p11, r_p18, r_mkT0, r_mkF0, r_mkM0, r_mkT1, r_mkF1, r_mkM1, r_mkT2, r_mkF2, r_mkM2, r_mkT3, r_mkF3, r_mkM3, r_mkT4, r_mkF4, r_mkM4, r_mkT5, r_mkF5, r_mkM5, r_fld, r_gfld, r_isx, r_isxE, r_isxN, r_bcnt, r_catX, r_rai, r_tryk, r_tryN, r_tryR, r_tryX, r_oxc, r_bindX, sq_t, sq_f, q_seq, q_src, q_len, q_tup, q_list, q_asg, q_pur, q_srt, q_srl, optV_n, optV_s, sgL, tab_kid, at_rng l1, ts]
      rw [List.take_add_one, hr, Option.toList_some, List.foldl_append]
      rfl
  obtain ⟨σ', S', e, o2, o3, o5, rfl, rfl⟩ := go
  rw [List.length_map, Nat.zero_add, List.take_length] at e
  have e0 : tabS s F.n (F.ropes.foldl (fun M r => upd2 M r.1 r.2.1 (some r.2.2)) fun a b => if a = b then some 0 else none) = tabS s F.n (first F) := tab_congr fun a b _ _ => fill_first ok a b
  rw [e0] at e
  obtain ⟨σ2, e2, p2, p3, p5, p6, p7, rfl⟩ := loopK (s := s) (cl := callF P n) ok (seaV b F) o2 o3 o5 none none
  unfold seaV at c e e2 ⊢
  simp only [fn__law_leads, r_s, r_asg, r_idx, r_var, r_lit, r_vvi, List.map_cons, List.map_nil, List.replicate, List.cons_append, List.nil_append, Nat.reduceSub, r_get0, r_gets, r_bind, r_gIdx, q_seq, r_at0, r_lift, r_asgv, r_mapS, r_cat, r_tnx, r_set0, r_sets, c, r_for, r_pl, r_at1, q_src, r_assoc]
  rw [e]
  simp only [r_bind, r_cat, r_tnx, r_s, r_for, r_range, r_cons, r_nil, r_var, r_get0, r_gets, rng_nat (rngs ok.few), r_assoc, sgL]
  unfold bodyL at e2
  unfold sgL at e2
  rw [e2]
  simp only [r_bind, r_assoc, r_lift, r_noX, r_var, r_lit, r_vvn, r_vvb, r_vvi, r_vvs, r_bin, r_neg, r_no, r_conj, r_disj, r_cmp, r_chain, r_ite, r_tup, r_lst, r_idx, r_sl, r_call, r_callk, r_bi, r_bm, r_comp, r_nil, r_cons, r_and1, r_and, r_or1, r_or, r_c0, r_c1, r_range, r_zip, r_enum, r_pl, r_s0, r_s, r_tnx, r_trt, r_tbk, r_tct, r_txc, r_cat, r_asg, r_sub, r_aug, r_expr, r_ret, r_ife, r_for, r_asgv, r_asgt, r_asgl, r_asg0, r_asgc, r_mapS, r_get0, r_gets, r_set0, r_sets, r_wip0, r_wip, r_trb, r_tri, r_ii, r_add, r_subi, r_gIdx, r_dcomp, r_scomp, r_sqt, r_sql, r_sqr, r_gCmp, r_lt, r_gt, r_le, r_ge, r_eqi, r_nei, r_isN, r_isI, r_inN, r_inI, r_neg', r_at0, r_at1, r_at2, r_ort, r_onx, r_lenl, r_lent, r_lenr, r_abs, r_intb, r_inti, r_max2, r_min2, r_tupt, r_tupl, r_tupr, r_listt, r_listl, r_listr, r_p6, r_p9, r_p11, r_p18, r_mkT0, r_mkF0, r_mkM0, r_mkT1, r_mkF1, r_mkM1, r_mkT2, r_mkF2, r_mkM2, r_mkT3, r_mkF3, r_mkM3, r_mkT4, r_mkF4, r_mkM4, r_mkT5, r_mkF5, r_mkM5, r_fld, r_gfld, r_isx, r_isxE, r_isxN, r_bcnt, r_catX, r_rai, r_tryk, r_tryN, r_tryR, r_tryX, r_oxc, r_bindX, sq_t, sq_f, q_seq, q_src, q_len, q_tup, q_list, q_asg, q_pur, q_srt, q_srl, optV_n, optV_s, sgL]
  exact tab_frz ok.few
end
end Tw
set_option Elab.async false
set_option linter.all false
set_option autoImplicit false
set_option maxRecDepth 100000
/-! LibMoor: the laws' own mooring. -/
namespace Tw
def fn__law_moor : Fn := ⟨2, 7, [.asg (.var 2) (.call false "_law_leads" [(.var 0)]), .asg (.var 3) (.lst true []), .forr (.var 4) (.range [(.idx (.var 0) (.lit (.int 0)))]) [.asg (.var 6) (.comp false (.var 5) (.var 5) (.range [(.idx (.var 0) (.lit (.int 0)))]) [(.cmp .isnot (.idx (.idx (.var 2) (.var 5)) (.var 4)) (.lit .non))] [5]), .expr (.bm .append (.var 3) [(.bi false .max [(.comp false (.bin false .sub (.idx (.var 1) (.var 5)) (.idx (.idx (.var 2) (.var 5)) (.var 4))) (.var 5) (.pl (.var 6)) [] [5])])])], .ret (.bi false .tuple [(.var 3)])]⟩
theorem foldM : ∀ (xs : List Int) (x : Int), (xs.foldl (fun a b => if b > a then b else a) x = x ∨ xs.foldl (fun a b => if b > a then b else a) x ∈ xs) ∧ x ≤ xs.foldl (fun a b => if b > a then b else a) x ∧ ∀ y ∈ xs, y ≤ xs.foldl (fun a b => if b > a then b else a) x
  | [], x => ⟨.inl rfl, Int.le_refl _, by simp⟩
  | y :: xs, x => by
    obtain ⟨h1, h2, h3⟩ := foldM xs (if y > x then y else x)
    rw [List.foldl_cons]
    refine ⟨?_, ?_, fun z hz => ?_⟩
    · rcases h1 with h | h
      · rw [h]
        split
        · exact .inr List.mem_cons_self
        · exact .inl rfl
      · exact .inr (List.mem_cons_of_mem _ h)
    · split at h2 <;> (rename_i q; simp only [q, if_true, if_false]; omega)
    · rcases List.mem_cons.mp hz with rfl | hz
      · split at h2 <;> (rename_i q; simp only [q, if_true, if_false]; omega)
      · exact h3 z hz
theorem maxI_at {xs : List Int} (h : xs ≠ []) : ∃ v, maxI xs = some v ∧ v ∈ xs ∧ ∀ y ∈ xs, y ≤ v := by
  cases xs with
  | nil => exact absurd rfl h
  | cons x xs =>
    obtain ⟨h1, h2, h3⟩ := foldM xs x
    refine ⟨_, rfl, ?_, fun y hy => ?_⟩
    · rcases h1 with h | h
      · rw [h]; exact List.mem_cons_self
      · exact List.mem_cons_of_mem _ h
    · rcases List.mem_cons.mp hy with rfl | hy
      · exact h2
      · exact h3 y hy
theorem ints_map {α : Type} {f : α → Int} : ∀ {l : List α}, mapO intOf (l.map fun a => VV.int (f a)) = some (l.map f)
  | [] => rfl
  | a :: l => by
    rw [List.map_cons, List.map_cons]
    unfold mapO
    rw [ints_map (l := l)]
    rfl
theorem r_maxl {α : Type} {f : α → Int} {l : List α} {v : Int} (m : Bool) (s : Hs) (h : maxI (l.map f) = some v) : biV m .max [.lst (l.map fun a => VV.int (f a))] s = .ok (.int v) s := by
  show lift (((seqInts s (.lst (l.map fun a => VV.int (f a)))).bind maxI).map VV.int) s = _
  have e : seqInts s (.lst (l.map fun a => VV.int (f a))) = some (l.map f) := ints_map
  rw [e]
  show lift ((maxI (l.map f)).map VV.int) s = _
  rw [h]
  rfl
/-- the boats that lead to j, and how far they pull it -/
def tugs (F : Sea) (j : Nat) : List Nat := (List.range F.n).filter fun i => (lead F i j).isSome
def pulled (F : Sea) (m : Mk) (j i : Nat) : Int := m i - (lead F i j).getD 0
theorem moor_max {F : Sea} (ok : F.Ok) (m : Mk) {j : Nat} (hj : j < F.n) : maxI ((tugs F j).map (pulled F m j)) = some (moor F m j) := by
  have mem : ∀ {j i}, i ∈ tugs F j ↔ i < F.n ∧ ∃ d, lead F i j = some d := fun {j i} => by
    unfold tugs
    rw [List.mem_filter, List.mem_range, Option.isSome_iff_exists]
  have ex : ∀ j, ∃ v, j < F.n → maxI ((tugs F j).map (pulled F m j)) = some v ∧ (∃ i d, i < F.n ∧ lead F i j = some d ∧ v = m i - d) ∧ ∀ i d, i < F.n → lead F i j = some d → m i - d ≤ v := fun j => by
    by_cases hj : j < F.n
    · have hd := (lead_ok ok).diag j hj
      have ne : (tugs F j).map (pulled F m j) ≠ [] := fun z => by
        have : j ∈ tugs F j := mem.mpr ⟨hj, 0, hd⟩
        rw [List.map_eq_nil_iff.mp z] at this
        cases this
      obtain ⟨v, e, h1, h2⟩ := maxI_at ne
      refine ⟨v, fun _ => ⟨e, ?_, fun i d hi hd => ?_⟩⟩
      · obtain ⟨i, hi, rfl⟩ := List.mem_map.mp h1
        obtain ⟨hin, d, hd⟩ := mem.mp hi
        exact ⟨i, d, hin, hd, by unfold pulled; rw [hd]; rfl⟩
      · have := h2 (pulled F m j i) (List.mem_map.mpr ⟨i, mem.mpr ⟨hi, d, hd⟩, rfl⟩)
        unfold pulled at this
        rw [hd] at this
        exact this
    · exact ⟨0, fun z => absurd z hj⟩
  obtain ⟨L, hL⟩ := Classical.axiomOfChoice ex
  have h := moor_of_lead ok (lead_ok ok) (m := m) (L := L) fun j hj => (hL j hj).2
  rw [(hL j hj).1, h.uniq (moor_ok ok m) j hj]
theorem moorL_okv {P : Pg} (hL : P "_law_leads" = some fn__law_leads) (hM : P "_law_moor" = some fn__law_moor) {F : Sea} (ok : F.Ok) {s : Hs} {b : Bool} (m : Mk) (n : Nat) {v : VV} (hv : ∀ g : Hs, seqOf (s ++ g) v = some ((List.range F.n).map fun i => VV.int (m i))) :
    callF P (n + 2) false "_law_moor" [seaV b F, v] s = .ok (mkV true F.n (moor F m)) s := by
  rw [callF_run hM rfl]
  have el : ∀ S, callF P (n + 1) false "_law_leads" [seaV b F] S = .ok (tabV F.n (lead F)) S := fun S => leads_ok hL ok n
  generalize callF P (n + 1) = cl at *
  have rn := rngs ok.few
  have sz : ∀ (l : List VV), l.length ≤ F.n → l.length ≤ szL := fun l h => sz_of (by have := ok.few; omega)
  have szF : ∀ (p : Nat → Bool) (f : Nat → VV), (((List.range F.n).filter p).map f).length ≤ szL := fun p f => sz _ (by
    rw [List.length_map]
    have := List.length_filter_le p (List.range F.n)
    rw [List.length_range] at this
    exact this)
  have turn : ∀ (j : Nat) (hj : j < F.n) (o4 o5 o6 : Option VV) (xs : List VV) (hx : xs.length = j),
      exs cl [.asg (.var 6) (.comp false (.var 5) (.var 5) (.range [(.idx (.var 0) (.lit (.int 0)))]) [(.cmp .isnot (.idx (.idx (.var 2) (.var 5)) (.var 4)) (.lit .non))] [5]), .expr (.bm .append (.var 3) [(.bi false .max [(.comp false (.bin false .sub (.idx (.var 1) (.var 5)) (.idx (.idx (.var 2) (.var 5)) (.var 4))) (.var 5) (.pl (.var 6)) [] [5])])])]
        [some (seaV b F), some (v), some (tabV F.n (lead F)), some (.ref s.length), some (.int j), o5, o6] (s ++ [.lst xs]) =
      .ok (.nx [some (seaV b F), some (v), some (tabV F.n (lead F)), some (.ref s.length), some (.int j), o5, some (.lst ((tugs F j).map fun (i : Nat) => VV.int i))]) (s ++ [.lst (xs ++ [.int (moor F m j)])]) := by
    intro j hj o4 o5 o6 xs hx
    have c1 : ∀ S, compL [] (stepC cl (.var 5) (.var 5) [(.cmp .isnot (.idx (.idx (.var 2) (.var 5)) (.var 4)) (.lit .non))] [5] [some (seaV b F), some (v), some (tabV F.n (lead F)), some (.ref s.length), some (.int j), o5, o6]) ((List.range F.n).map fun (i : Nat) => VV.int i) S =
        .ok ((tugs F j).map fun (i : Nat) => VV.int i) S := fun S => compL_fm rfl fun i hi => by
      have hi := List.mem_range.mp hi
      simp only [stepC, r_bind, r_assoc, r_lift, r_noX, r_var, r_lit, r_vvn, r_vvb, r_vvi, r_vvs, r_bin, r_neg, r_no, r_conj, r_disj, r_cmp, r_chain, r_ite, r_tup, r_lst, r_idx, r_sl, r_call, r_callk, r_bi, r_bm, r_comp, r_nil, r_cons, r_and1, r_and, r_or1, r_or, r_c0, r_c1, r_range, r_zip, r_enum, r_pl, r_s0, r_s, r_tnx, r_trt, r_tbk, r_tct, r_txc, r_cat, r_asg, r_sub, r_aug, r_expr, r_ret, r_ife, r_for, r_asgv, r_asgt, r_asgl, r_asg0, r_asgc, r_mapS, r_get0, r_gets, r_set0, r_sets, r_wip0, r_wip, r_trb, r_tri, r_ii, r_add, r_subi, r_gIdx, r_dcomp, r_scomp, r_sqt, r_sql, r_sqr, r_gCmp, r_lt, r_gt, r_le, r_ge, r_eqi, r_nei, r_isN, r_isI, r_inN, r_inI, r_neg', r_at0, r_at1, r_at2, r_ort, r_onx, r_lenl, r_lent, r_lenr, r_abs, r_intb, r_inti, r_max2, r_min2, r_tupt, r_tupl, r_tupr, r_listt, r_listl, r_listr, r_p6, r_p9, r_p11, r_p18, r_mkT0, r_mkF0, r_mkM0, r_mkT1, r_mkF1, r_mkM1, r_mkT2, r_mkF2, r_mkM2, r_mkT3, r_mkF3, r_mkM3, r_mkT4, r_mkF4, r_mkM4, r_mkT5, r_mkF5, r_mkM5, r_fld, r_gfld, r_isx, r_isxE, r_isxN, r_bcnt, r_catX, r_rai, r_tryk, r_tryN, r_tryR, r_tryX, r_oxc, r_bindX, sq_t, sq_f, q_seq, q_src, q_len, q_tup, q_list, q_asg, q_pur, q_srt, q_srl, optV_n, optV_s, tabV, at_rng hi, row_at hj]
      cases hd : lead F i j <;> simp only [r_bind, r_assoc, r_lift, r_noX, r_var, r_lit, r_vvn, r_vvb, r_vvi, r_vvs, r_bin, r_neg, r_no, r_conj, r_disj, r_cmp, r_chain, r_ite, r_tup, r_lst, r_idx, r_sl, r_call, r_callk, r_bi, r_bm, r_comp, r_nil, r_cons, r_and1, r_and, r_or1, r_or, r_c0, r_c1, r_range, r_zip, r_enum, r_pl, r_s0, r_s, r_tnx, r_trt, r_tbk, r_tct, r_txc, r_cat, r_asg, r_sub, r_aug, r_expr, r_ret, r_ife, r_for, r_asgv, r_asgt, r_asgl, r_asg0, r_asgc, r_mapS, r_get0, r_gets, r_set0, r_sets, r_wip0, r_wip, r_trb, r_tri, r_ii, r_add, r_subi, r_gIdx, r_dcomp, r_scomp, r_sqt, r_sql, r_sqr, r_gCmp, r_lt, r_gt, r_le, r_ge, r_eqi, r_nei, r_isN, r_isI, r_inN, r_inI, r_neg', r_at0, r_at1, r_at2, r_ort, r_onx, r_lenl, r_lent, r_lenr, r_abs, r_intb, r_inti, r_max2, r_min2, r_tupt, r_tupl, r_tupr, r_listt, r_listl, r_listr, r_p6, r_p9, r_p11, r_p18, r_mkT0, r_mkF0, r_mkM0, r_mkT1, r_mkF1, r_mkM1, r_mkT2, r_mkF2, r_mkM2, r_mkT3, r_mkF3, r_mkM3, r_mkT4, r_mkF4, r_mkM4, r_mkT5, r_mkF5, r_mkM5, r_fld, r_gfld, r_isx, r_isxE, r_isxN, r_bcnt, r_catX, r_rai, r_tryk, r_tryN, r_tryR, r_tryX, r_oxc, r_bindX, sq_t, sq_f, q_seq, q_src, q_len, q_tup, q_list, q_asg, q_pur, q_srt, q_srl, optV_n, optV_s, Option.isSome] <;> rfl
    have c2 : compL [] (stepC cl (.bin false .sub (.idx (.var 1) (.var 5)) (.idx (.idx (.var 2) (.var 5)) (.var 4))) (.var 5) [] [5] [some (seaV b F), some (v), some (tabV F.n (lead F)), some (.ref s.length), some (.int j), o5, some (.lst ((tugs F j).map fun (i : Nat) => VV.int i))]) ((tugs F j).map fun (i : Nat) => VV.int i) (s ++ [.lst xs]) =
        .ok ((tugs F j).map fun i => VV.int (pulled F m j i)) (s ++ [.lst xs]) := compL_map rfl fun i hi => by
      obtain ⟨hi, hs⟩ := List.mem_filter.mp hi
      have hi := List.mem_range.mp hi
      obtain ⟨d, hd⟩ := Option.isSome_iff_exists.mp hs
      have e : pulled F m j i = m i - d := by unfold pulled; rw [hd]; rfl
      simp only [stepC, r_bind, r_assoc, r_lift, r_noX, r_var, r_lit, r_vvn, r_vvb, r_vvi, r_vvs, r_bin, r_neg, r_no, r_conj, r_disj, r_cmp, r_chain, r_ite, r_tup, r_lst, r_idx, r_sl, r_call, r_callk, r_bi, r_bm, r_comp, r_nil, r_cons, r_and1, r_and, r_or1, r_or, r_c0, r_c1, r_range, r_zip, r_enum, r_pl, r_s0, r_s, r_tnx, r_trt, r_tbk, r_tct, r_txc, r_cat, r_asg, r_sub, r_aug, r_expr, r_ret, r_ife, r_for, r_asgv, r_asgt, r_asgl, r_asg0, r_asgc, r_mapS, r_get0, r_gets, r_set0, r_sets, r_wip0, r_wip, r_trb, r_tri, r_ii, r_add, r_subi, r_gIdx, r_dcomp, r_scomp, r_sqt, r_sql, r_sqr, r_gCmp, r_lt, r_gt, r_le, r_ge, r_eqi, r_nei, r_isN, r_isI, r_inN, r_inI, r_neg', r_at0, r_at1, r_at2, r_ort, r_onx, r_lenl, r_lent, r_lenr, r_abs, r_intb, r_inti, r_max2, r_min2, r_tupt, r_tupl, r_tupr, r_listt, r_listl, r_listr, r_p6, r_p9, r_p11, r_p18, r_mkT0, r_mkF0, r_mkM0, r_mkT1, r_mkF1, r_mkM1, r_mkT2, r_mkF2, r_mkM2, r_mkT3, r_mkF3, r_mkM3, r_mkT4, r_mkF4, r_mkM4, r_mkT5, r_mkF5, r_mkM5, r_fld, r_gfld, r_isx, r_isxE, r_isxN, r_bcnt, r_catX, r_rai, r_tryk, r_tryN, r_tryR, r_tryX, r_oxc, r_bindX, sq_t, sq_f, q_seq, q_src, q_len, q_tup, q_list, q_asg, q_pur, q_srt, q_srl, optV_n, optV_s, tabV, hv, at_rng hi, row_at hj, hd, if_true, e]
    have k1 : ∀ S, mkL false ((tugs F j).map fun (i : Nat) => VV.int i) S = .ok (.lst ((tugs F j).map fun (i : Nat) => VV.int i)) S := fun S => mkL_f (szF _ _)
    have k2 : ∀ S, mkL false ((tugs F j).map fun i => VV.int (pulled F m j i)) S = .ok (.lst ((tugs F j).map fun i => VV.int (pulled F m j i))) S := fun S => mkL_f (szF _ _)
    have mx := fun S => r_maxl false S (moor_max ok m hj)
    have kd : kid (s ++ [.lst xs]) s.length = some xs := kid_of (by rw [List.getElem?_append_right (Nat.le_refl _)]; simp)
    have ap := bm_app (x := .int (moor F m j)) kd (by have := ok.few; have : (65536 : Nat) ≤ szL := sz_of (Nat.le_refl _); omega)
    have st : (s ++ [Ob.lst xs]).set s.length (Ob.lst (xs ++ [VV.int (moor F m j)])) = s ++ [Ob.lst (xs ++ [VV.int (moor F m j)])] := by
      rw [List.set_append_right _ _ (Nat.le_refl _)]
      simp
    rw [st] at ap
    have sv : seqOf (s ++ [.lst xs]) (seaV b F) = some [.int F.n, sq b (F.ropes.map (ropeV b))] := q_seq
    simp only [r_bind, r_assoc, r_lift, r_noX, r_var, r_lit, r_vvn, r_vvb, r_vvi, r_vvs, r_bin, r_neg, r_no, r_conj, r_disj, r_cmp, r_chain, r_ite, r_tup, r_lst, r_idx, r_sl, r_call, r_callk, r_bi, r_bm, r_comp, r_nil, r_cons, r_and1, r_and, r_or1, r_or, r_c0, r_c1, r_range, r_zip, r_enum, r_pl, r_s0, r_s, r_tnx, r_trt, r_tbk, r_tct, r_txc, r_cat, r_asg, r_sub, r_aug, r_expr, r_ret, r_ife, r_for, r_asgv, r_asgt, r_asgl, r_asg0, r_asgc, r_mapS, r_get0, r_gets, r_set0, r_sets, r_wip0, r_wip, r_trb, r_tri, r_ii, r_add, r_subi, r_gIdx, r_dcomp, r_scomp, r_sqt, r_sql, r_sqr, r_gCmp, r_lt, r_gt, r_le, r_ge, r_eqi, r_nei, r_isN, r_isI, r_inN, r_inI, r_neg', r_at0, r_at1, r_at2, r_ort, r_onx, r_lenl, r_lent, r_lenr, r_abs, r_intb, r_inti, r_max2, r_min2, r_tupt, r_tupl, r_tupr, r_listt, r_listl, r_listr, r_p6, r_p9, r_p11, r_p18, r_mkT0, r_mkF0, r_mkM0, r_mkT1, r_mkF1, r_mkM1, r_mkT2, r_mkF2, r_mkM2, r_mkT3, r_mkF3, r_mkM3, r_mkT4, r_mkF4, r_mkM4, r_mkT5, r_mkF5, r_mkM5, r_fld, r_gfld, r_isx, r_isxE, r_isxN, r_bcnt, r_catX, r_rai, r_tryk, r_tryN, r_tryR, r_tryX, r_oxc, r_bindX, sq_t, sq_f, q_seq, q_src, q_len, q_tup, q_list, q_asg, q_pur, q_srt, q_srl, optV_n, optV_s, sv, rng_nat rn, c1, k1, bm_ty kd, c2, k2, mx, ap]
  have go := forL_ok (step := stepF cl (.var 4) [.asg (.var 6) (.comp false (.var 5) (.var 5) (.range [(.idx (.var 0) (.lit (.int 0)))]) [(.cmp .isnot (.idx (.idx (.var 2) (.var 5)) (.var 4)) (.lit .non))] [5]), .expr (.bm .append (.var 3) [(.bi false .max [(.comp false (.bin false .sub (.idx (.var 1) (.var 5)) (.idx (.idx (.var 2) (.var 5)) (.var 4))) (.var 5) (.pl (.var 6)) [] [5])])])])
    (fun j σ S => j ≤ F.n ∧ ∃ o4 o5 o6, σ = [some (seaV b F), some (v), some (tabV F.n (lead F)), some (.ref s.length), o4, o5, o6] ∧ S = s ++ [.lst ((List.range j).map fun i => VV.int (moor F m i))])
    ((List.range F.n).map fun (j : Nat) => VV.int j) [some (seaV b F), some (v), some (tabV F.n (lead F)), some (.ref s.length), none, none, none] (s ++ [.lst []]) 0 ⟨Nat.zero_le _, none, none, none, rfl, rfl⟩ fun j x σ S hx hI => by
      obtain ⟨hj, rfl⟩ := range_at hx
      rw [Nat.zero_add] at hI ⊢
      obtain ⟨_, o4, o5, o6, rfl, rfl⟩ := hI
      have e := turn j hj o4 o5 o6 ((List.range j).map fun i => VV.int (moor F m i)) (by simp)
      refine ⟨_, _, e, by omega, some (.int j), o5, _, rfl, ?_⟩
      rw [List.range_succ, List.map_append]
      rfl
  obtain ⟨σ', S', e, _, o4, o5, o6, rfl, rfl⟩ := go
  rw [List.length_map, List.length_range, Nat.zero_add] at e
  have sv : ∀ S, seqOf S (seaV b F) = some [.int F.n, sq b (F.ropes.map (ropeV b))] := fun S => q_seq
  have kd : kid (s ++ [.lst ((List.range F.n).map fun i => VV.int (moor F m i))]) s.length = some ((List.range F.n).map fun i => VV.int (moor F m i)) := kid_of (by rw [List.getElem?_append_right (Nat.le_refl _)]; simp)
  have mk : ∀ S, mkT ((List.range F.n).map fun i => VV.int (moor F m i)) S = .ok (mkV true F.n (moor F m)) S := fun S => mkT_k (sz _ (by simp))
  simp only [fn__law_moor, r_bind, r_assoc, r_lift, r_noX, r_var, r_lit, r_vvn, r_vvb, r_vvi, r_vvs, r_bin, r_neg, r_no, r_conj, r_disj, r_cmp, r_chain, r_ite, r_tup, r_lst, r_idx, r_sl, r_call, r_callk, r_bi, r_bm, r_comp, r_nil, r_cons, r_and1, r_and, r_or1, r_or, r_c0, r_c1, r_range, r_zip, r_enum, r_pl, r_s0, r_s, r_tnx, r_trt, r_tbk, r_tct, r_txc, r_cat, r_asg, r_sub, r_aug, r_expr, r_ret, r_ife, r_for, r_asgv, r_asgt, r_asgl, r_asg0, r_asgc, r_mapS, r_get0, r_gets, r_set0, r_sets, r_wip0, r_wip, r_trb, r_tri, r_ii, r_add, r_subi, r_gIdx, r_dcomp, r_scomp, r_sqt, r_sql, r_sqr, r_gCmp, r_lt, r_gt, r_le, r_ge, r_eqi, r_nei, r_isN, r_isI, r_inN, r_inI, r_neg', r_at0, r_at1, r_at2, r_ort, r_onx, r_lenl, r_lent, r_lenr, r_abs, r_intb, r_inti, r_max2, r_min2, r_tupt, r_tupl, r_tupr, r_listt, r_listl, r_listr, r_p6, r_p9, r_p11, r_p18, r_mkT0, r_mkF0, r_mkM0, r_mkT1, r_mkF1, r_mkM1, r_mkT2, r_mkF2, r_mkM2, r_mkT3, r_mkF3, r_mkM3, r_mkT4, r_mkF4, r_mkM4, r_mkT5, r_mkF5, r_mkM5, r_fld, r_gfld, r_isx, r_isxE, r_isxN, r_bcnt, r_catX, r_rai, r_tryk, r_tryN, r_tryR, r_tryX, r_oxc, r_bindX, sq_t, sq_f, q_seq, q_src, q_len, q_tup, q_list, q_asg, q_pur, q_srt, q_srl, optV_n, optV_s, List.map_cons, List.map_nil, List.replicate, List.cons_append, List.nil_append, Nat.reduceSub, el, sv, rng_nat rn, e, kd, mk]
  exact fin_drop (mkV_pur _ _ _)
theorem moorL_ok {P : Pg} (hL : P "_law_leads" = some fn__law_leads) (hM : P "_law_moor" = some fn__law_moor) {F : Sea} (ok : F.Ok) {s : Hs} {b c : Bool} (m : Mk) (n : Nat) :
    callF P (n + 2) false "_law_moor" [seaV b F, mkV c F.n m] s = .ok (mkV true F.n (moor F m)) s := moorL_okv hL hM ok m n fun g => q_seq
end Tw
set_option Elab.async false
set_option linter.all false
set_option autoImplicit false
set_option maxRecDepth 100000
/-! LibMoored: the program's broken and moored. -/
namespace Tw
def fn_is_number : Fn := ⟨1, 1, [.ret (.conj [(.bi false (.isinst [.int]) [(.var 0)]), (.no (.bi false (.isinst [.bool]) [(.var 0)]))])]⟩
def fn_is_count : Fn := ⟨1, 1, [.ret (.conj [(.call false "is_number" [(.var 0)]), (.cmp .ge (.var 0) (.lit (.int 0)))])]⟩
def fn_are_marks : Fn := ⟨2, 3, [.ret (.conj [(.bi false (.isinst [.tuple]) [(.var 1)]), (.cmp .eq (.bi false .len [(.var 1)]) (.var 0)), (.bi false .all [(.comp false (.call false "is_count" [(.var 2)]) (.var 2) (.pl (.var 1)) [] [2])])])]⟩
def fn_broken : Fn := ⟨2, 3, [.ret (.comp true (.bi false .tuple [(.var 2)]) (.var 2) (.pl (.idx (.var 0) (.lit (.int 1)))) [(.cmp .lt (.idx (.var 1) (.idx (.var 2) (.lit (.int 1)))) (.bin false .sub (.idx (.var 1) (.idx (.var 2) (.lit (.int 0)))) (.idx (.var 2) (.lit (.int 2)))))] [2])]⟩
def fn_is_standing : Fn := ⟨2, 2, [.ret (.conj [(.call false "are_marks" [(.idx (.var 0) (.lit (.int 0))), (.var 1)]), (.cmp .eq (.call false "broken" [(.var 0), (.var 1)]) (.lst false []))])]⟩
def fn_moored : Fn := ⟨2, 7, [.asg (.tup [(.var 2), (.var 3)]) (.tup [(.bi true .list [(.var 1)]), (.call false "broken" [(.var 0), (.var 1)])]), .whl (.cmp .gt (.bi false .len [(.var 3)]) (.lit (.int 0))) [.forr (.tup [(.var 4), (.var 5), (.var 6)]) (.pl (.var 3)) [.sub (.var 2) (.var 5) (.bi false .max2 [(.idx (.var 2) (.var 5)), (.bin false .sub (.idx (.var 2) (.var 4)) (.var 6))])], .asg (.var 3) (.call false "broken" [(.var 0), (.var 2)])], .ret (.bi true .tuple [(.var 2)])]⟩
theorem frz_all {lim : Nat} {s : Hs} : ∀ (n : Nat) (v : VV), pur v = true → frz n lim s v = some v
  | 0, v, h => by cases v <;> exact if_pos h
  | n + 1, v, h => by
    have all : ∀ xs : List VV, purs xs = true → mapO (frz n lim s) xs = some xs := fun xs hx => by
      have := mapO_map (f := frz n lim s) (φ := id) (ψ := id) (l := xs) fun a ha => frz_all n a (purs_all.mp hx a ha)
      rw [List.map_id] at this
      exact this
    cases v with
    | tup xs =>
      show (mapO (frz n lim s) xs).map VV.tup = _
      rw [all xs (by simpa [pur] using h)]
      rfl
    | lst xs =>
      show (mapO (frz n lim s) xs).map VV.lst = _
      rw [all xs (by simpa [pur] using h)]
      rfl
    | ref k => cases h
    | dct t kvs =>
      have hk : ∀ l : List (VV × VV), purp l = true → mapO (fun p : VV × VV => (frz n lim s p.2).map fun v => (p.1, v)) l = some l := by
        intro l
        induction l with
        | nil => intro _; rfl
        | cons p l ih =>
          intro hl
          obtain ⟨a, b⟩ := p
          simp only [purp, purq, Bool.and_eq_true] at hl
          unfold mapO
          rw [frz_all n b hl.1.2, ih hl.2]
          rfl
      show (mapO (fun p : VV × VV => (frz n lim s p.2).map fun v => (p.1, v)) kvs).map (VV.dct t) = _
      rw [hk kvs (by simpa [pur] using h)]
      rfl
    | _ => exact if_pos h
/-- a new plain list is handed back -/
theorem fin_new {s : Hs} {xs : List VV} (h : purs xs = true) : fin false s (.ref s.length) (s ++ [.lst xs]) = .ok (.lst xs) s := by
  have k : (s ++ [Ob.lst xs])[s.length]? = some (.lst xs) := by
    rw [List.getElem?_append_right (Nat.le_refl _)]
    simp
  have := mapO_map (f := frz 5 s.length (s ++ [Ob.lst xs])) (φ := id) (ψ := id) (l := xs) fun a ha => frz_all 5 a (purs_all.mp h a ha)
  rw [List.map_id] at this
  exact fin_frz rfl (frz_ref (Nat.le_refl _) k this)
theorem fin_keep {s s' : Hs} {v : VV} : fin true s v s' = .ok v s' := rfl
abbrev mks (n : Nat) (m : Mk) : List VV := (List.range n).map fun i => VV.int (m i)
def slips (F : Sea) (m : Mk) : List Rope := F.ropes.filter (slip m)
section
variable {P : Pg} {F : Sea} {s : Hs} {b : Bool} {m : Mk} {v : VV}
theorem slips_pur : purs ((slips F m).map (ropeV true)) = true := purs_map fun r _ => ropeV_pur true r
theorem broken_c (ok : F.Ok) {cl : Cl} (hv : seqOf s v = some (mks F.n m)) :
    exs cl fn_broken.body [some (seaV b F), some v, none] s = .ok (.rt (.ref s.length)) (s ++ [.lst ((slips F m).map (ropeV true))]) := by
  have c1 : compL [] (stepC cl (.bi false .tuple [(.var 2)]) (.var 2) [(.cmp .lt (.idx (.var 1) (.idx (.var 2) (.lit (.int 1)))) (.bin false .sub (.idx (.var 1) (.idx (.var 2) (.lit (.int 0)))) (.idx (.var 2) (.lit (.int 2)))))] [2] [some (seaV b F), some v, none])
      (F.ropes.map (ropeV b)) s = .ok ((slips F m).map (ropeV true)) s := compL_fm rfl fun r hr => by
    have l1 := ok.lt1 r hr
    have l2 := ok.lt2 r hr
    simp only [stepC, ropeV, r_bind, r_assoc, r_lift, r_noX, r_var, r_lit, r_vvn, r_vvb, r_vvi, r_vvs, r_bin, r_neg, r_no, r_conj, r_disj, r_cmp, r_chain, r_ite, r_tup, r_lst, r_idx, r_sl, r_call, r_callk, r_bi, r_bm, r_comp, r_nil, r_cons, r_and1, r_and, r_or1, r_or, r_c0, r_c1, r_range, r_zip, r_enum, r_pl, r_s0, r_s, r_tnx, r_trt, r_tbk, r_tct, r_txc, r_cat, r_asg, r_sub, r_aug, r_expr, r_ret, r_ife, r_for, r_asgv, r_asgt, r_asgl, r_asg0, r_asgc, r_mapS, r_get0, r_gets, r_set0, r_sets, r_wip0, r_wip, r_trb, r_tri, r_ii, r_add, r_subi, r_gIdx, r_dcomp, r_scomp, r_sqt, r_sql, r_sqr, r_gCmp, r_lt, r_gt, r_le, r_ge, r_eqi, r_nei, r_isN, r_isI, r_inN, r_inI, r_neg', r_at0, r_at1, r_at2, r_ort, r_onx, r_lenl, r_lent, r_lenr, r_abs, r_intb, r_inti, r_max2, r_min2, r_tupt, r_tupl, r_tupr, r_listt, r_listl, r_listr, r_p6, r_p9, r_p11, r_p18, r_mkT0, r_mkF0, r_mkM0, r_mkT1, r_mkF1, r_mkM1, r_mkT2, r_mkF2, r_mkM2, r_mkT3, r_mkF3, r_mkM3, r_mkT4, r_mkF4, r_mkM4, r_mkT5, r_mkF5, r_mkM5, r_fld, r_gfld, r_isx, r_isxE, r_isxN, r_bcnt, r_catX, r_rai, r_tryk, r_tryN, r_tryR, r_tryX, r_oxc, r_bindX, sq_t, sq_f, q_seq, q_src, q_len, q_tup, q_list, q_asg, q_pur, q_srt, q_srl, optV_n, optV_s, hv, mks, at_rng l1, at_rng l2]
    unfold slip
    cases decide (m r.2.1 < m r.1 - r.2.2) <;> rfl
  have sv : seqOf s (seaV b F) = some [.int F.n, sq b (F.ropes.map (ropeV b))] := q_seq
  have mk : mkL true ((slips F m).map (ropeV true)) s = .ok (.ref s.length) (s ++ [.lst ((slips F m).map (ropeV true))]) := mkL_t (by
    rw [List.length_map]
    have h1 := List.length_filter_le (slip m) F.ropes
    have h2 := ok.len
    exact sz_of (by unfold slips; omega))
  simp only [fn_broken, r_bind, r_assoc, r_lift, r_noX, r_var, r_lit, r_vvn, r_vvb, r_vvi, r_vvs, r_bin, r_neg, r_no, r_conj, r_disj, r_cmp, r_chain, r_ite, r_tup, r_lst, r_idx, r_sl, r_call, r_callk, r_bi, r_bm, r_comp, r_nil, r_cons, r_and1, r_and, r_or1, r_or, r_c0, r_c1, r_range, r_zip, r_enum, r_pl, r_s0, r_s, r_tnx, r_trt, r_tbk, r_tct, r_txc, r_cat, r_asg, r_sub, r_aug, r_expr, r_ret, r_ife, r_for, r_asgv, r_asgt, r_asgl, r_asg0, r_asgc, r_mapS, r_get0, r_gets, r_set0, r_sets, r_wip0, r_wip, r_trb, r_tri, r_ii, r_add, r_subi, r_gIdx, r_dcomp, r_scomp, r_sqt, r_sql, r_sqr, r_gCmp, r_lt, r_gt, r_le, r_ge, r_eqi, r_nei, r_isN, r_isI, r_inN, r_inI, r_neg', r_at0, r_at1, r_at2, r_ort, r_onx, r_lenl, r_lent, r_lenr, r_abs, r_intb, r_inti, r_max2, r_min2, r_tupt, r_tupl, r_tupr, r_listt, r_listl, r_listr, r_p6, r_p9, r_p11, r_p18, r_mkT0, r_mkF0, r_mkM0, r_mkT1, r_mkF1, r_mkM1, r_mkT2, r_mkF2, r_mkM2, r_mkT3, r_mkF3, r_mkM3, r_mkT4, r_mkF4, r_mkM4, r_mkT5, r_mkF5, r_mkM5, r_fld, r_gfld, r_isx, r_isxE, r_isxN, r_bcnt, r_catX, r_rai, r_tryk, r_tryN, r_tryR, r_tryX, r_oxc, r_bindX, sq_t, sq_f, q_seq, q_src, q_len, q_tup, q_list, q_asg, q_pur, q_srt, q_srl, optV_n, optV_s, sv, c1, mk]
theorem broken_ok (hP : P "broken" = some fn_broken) (ok : F.Ok) (hv : seqOf s v = some (mks F.n m)) (n : Nat) : callF P (n + 1) false "broken" [seaV b F, v] s = .ok (.lst ((slips F m).map (ropeV true))) s := by
  rw [callF_run hP rfl]
  show (exs (callF P n) fn_broken.body [some (seaV b F), some v, none] s).bind _ = _
  rw [broken_c ok hv]
  exact fin_new slips_pur
theorem broken_k (hP : P "broken" = some fn_broken) (ok : F.Ok) (hv : seqOf s v = some (mks F.n m)) (n : Nat) : callF P (n + 1) true "broken" [seaV b F, v] s = .ok (.ref s.length) (s ++ [.lst ((slips F m).map (ropeV true))]) := by
  rw [callF_run hP rfl]
  show (exs (callF P n) fn_broken.body [some (seaV b F), some v, none] s).bind _ = _
  rw [broken_c ok hv]
  rfl
/-- one line pulled, on the heap -/
abbrev sgM (F : Sea) (b : Bool) (v : VV) (t : Nat) (o3 o4 o5 o6 : Option VV) : Sv := [some (seaV b F), some v, some (.ref t), o3, o4, o5, o6]
theorem pull_set {n : Nat} {f : Mk} {r : Rope} (h : r.2.1 < n) : (mks n f).set r.2.1 (.int (if f r.1 - r.2.2 > f r.2.1 then f r.1 - r.2.2 else f r.2.1)) = mks n (pull f r) := by
  unfold mks
  rw [set_rng h]
  apply List.map_congr_left
  intro j _
  unfold pull
  split <;> rfl
theorem pulls_c {cl : Cl} (l : List Rope) (h1 : ∀ r ∈ l, r.1 < F.n) (h2 : ∀ r ∈ l, r.2.1 < F.n) (f : Mk) (o3 o4 o5 o6 : Option VV) :
    ∃ o4' o5' o6', forL [] (stepF cl (.tup [(.var 4), (.var 5), (.var 6)]) [.sub (.var 2) (.var 5) (.bi false .max2 [(.idx (.var 2) (.var 5)), (.bin false .sub (.idx (.var 2) (.var 4)) (.var 6))])]) (l.map (ropeV true)) (sgM F b v s.length o3 o4 o5 o6) (s ++ [.lst (mks F.n f)]) =
      .ok (.nx (sgM F b v s.length o3 o4' o5' o6')) (s ++ [.lst (mks F.n (l.foldl pull f))]) := by
  have go := forL_ok (step := stepF cl (.tup [(.var 4), (.var 5), (.var 6)]) [.sub (.var 2) (.var 5) (.bi false .max2 [(.idx (.var 2) (.var 5)), (.bin false .sub (.idx (.var 2) (.var 4)) (.var 6))])])
    (fun i σ S => ∃ o4 o5 o6, σ = sgM F b v s.length o3 o4 o5 o6 ∧ S = s ++ [.lst (mks F.n ((l.take i).foldl pull f))]) (l.map (ropeV true)) (sgM F b v s.length o3 o4 o5 o6) (s ++ [.lst (mks F.n f)]) 0 ⟨o4, o5, o6, rfl, rfl⟩ fun i x σ S hx hI => by
      obtain ⟨r, hr, rfl⟩ := map_at hx
      rw [Nat.zero_add] at hI ⊢
      obtain ⟨o4, o5, o6, rfl, rfl⟩ := hI
      have hm := List.mem_of_getElem? hr
      have l1 := h1 r hm
      have l2 := h2 r hm
      generalize hg : (l.take i).foldl pull f = g
      have kd : kid (s ++ [.lst (mks F.n g)]) s.length = some (mks F.n g) := kid_of (by rw [List.getElem?_append_right (Nat.le_refl _)]; simp)
      have st := set_of (n := r.2.1) (j := (r.2.1 : Int)) (v := .int (if g r.1 - r.2.2 > g r.2.1 then g r.1 - r.2.2 else g r.2.1)) kd (by unfold mks; rw [List.length_map, List.length_range]; exact ix_nat l2)
      rw [pull_set l2, List.set_append_right _ _ (Nat.le_refl _)] at st
      simp only [Nat.sub_self, List.set_cons_zero] at st
      have a1 : atV (mks F.n g) (r.1 : Int) = some (.int (g r.1)) := at_rng l1 _
      have a2 : atV (mks F.n g) (r.2.1 : Int) = some (.int (g r.2.1)) := at_rng l2 _
      refine ⟨_, _, ?_, some (.int r.1), some (.int r.2.1), some (.int r.2.2), rfl, rfl⟩
      unfold stepF ropeV
      simp only [r_bind, r_assoc, r_lift, r_noX, r_var, r_lit, r_vvn, r_vvb, r_vvi, r_vvs, r_bin, r_neg, r_no, r_conj, r_disj, r_cmp, r_chain, r_ite, r_tup, r_lst, r_idx, r_sl, r_call, r_callk, r_bi, r_bm, r_comp, r_nil, r_cons, r_and1, r_and, r_or1, r_or, r_c0, r_c1, r_range, r_zip, r_enum, r_pl, r_s0, r_s, r_tnx, r_trt, r_tbk, r_tct, r_txc, r_cat, r_asg, r_sub, r_aug, r_expr, r_ret, r_ife, r_for, r_asgv, r_asgt, r_asgl, r_asg0, r_asgc, r_mapS, r_get0, r_gets, r_set0, r_sets, r_wip0, r_wip, r_trb, r_tri, r_ii, r_add, r_subi, r_gIdx, r_dcomp, r_scomp, r_sqt, r_sql, r_sqr, r_gCmp, r_lt, r_gt, r_le, r_ge, r_eqi, r_nei, r_isN, r_isI, r_inN, r_inI, r_neg', r_at0, r_at1, r_at2, r_ort, r_onx, r_lenl, r_lent, r_lenr, r_abs, r_intb, r_inti, r_max2, r_min2, r_tupt, r_tupl, r_tupr, r_listt, r_listl, r_listr, r_p6, r_p9, r_p11, r_p18, r_mkT0, r_mkF0, r_mkM0, r_mkT1, r_mkF1, r_mkM1, r_mkT2, r_mkF2, r_mkM2, r_mkT3, r_mkF3, r_mkM3, r_mkT4, r_mkF4, r_mkM4, r_mkT5, r_mkF5, r_mkM5, r_fld, r_gfld, r_isx, r_isxE, r_isxN, r_bcnt, r_catX, r_rai, r_tryk, r_tryN, r_tryR, r_tryX, r_oxc, r_bindX, sq_t, sq_f, q_seq, q_src, q_len, q_tup, q_list, q_asg, q_pur, q_srt, q_srl, optV_n, optV_s, sgM, kd, a1, a2, st]
      rw [List.take_add_one, hr, Option.toList_some, List.foldl_append, hg]
      rfl
  obtain ⟨σ', S', e, o4', o5', o6', rfl, rfl⟩ := go
  rw [List.length_map, Nat.zero_add, List.take_length] at e
  exact ⟨o4', o5', o6', e⟩
theorem moored_c (hP : P "broken" = some fn_broken) (ok : F.Ok) (n : Nat) : ∀ (fuel : Nat) (f : Mk) (o4 o5 o6 : Option VV), Below F.n m f → Below F.n f (moor F m) → left (moor F m) f F.n < fuel →
    ∃ o3' o4' o5' o6', whileL (whT (callF P (n + 1)) (.cmp .gt (.bi false .len [(.var 3)]) (.lit (.int 0))))
      (whB (callF P (n + 1)) [.forr (.tup [(.var 4), (.var 5), (.var 6)]) (.pl (.var 3)) [.sub (.var 2) (.var 5) (.bi false .max2 [(.idx (.var 2) (.var 5)), (.bin false .sub (.idx (.var 2) (.var 4)) (.var 6))])], .asg (.var 3) (.call false "broken" [(.var 0), (.var 2)])])
      fuel (sgM F b v s.length (some (.lst ((slips F f).map (ropeV true)))) o4 o5 o6) (s ++ [.lst (mks F.n f)]) = .ok (.nx (sgM F b v s.length o3' o4' o5' o6')) (s ++ [.lst (mks F.n (moor F m))])
  | 0, f, _, _, _, _, _, h => by omega
  | fuel + 1, f, o4, o5, o6, h1, h2, h3 => by
    rw [whl_red]
    simp only [whT_ap, whB_ap, r_bind, r_assoc, r_lift, r_noX, r_var, r_lit, r_vvn, r_vvb, r_vvi, r_vvs, r_bin, r_neg, r_no, r_conj, r_disj, r_cmp, r_chain, r_ite, r_tup, r_lst, r_idx, r_sl, r_call, r_callk, r_bi, r_bm, r_comp, r_nil, r_cons, r_and1, r_and, r_or1, r_or, r_c0, r_c1, r_range, r_zip, r_enum, r_pl, r_s0, r_s, r_tnx, r_trt, r_tbk, r_tct, r_txc, r_cat, r_asg, r_sub, r_aug, r_expr, r_ret, r_ife, r_for, r_asgv, r_asgt, r_asgl, r_asg0, r_asgc, r_mapS, r_get0, r_gets, r_set0, r_sets, r_wip0, r_wip, r_trb, r_tri, r_ii, r_add, r_subi, r_gIdx, r_dcomp, r_scomp, r_sqt, r_sql, r_sqr, r_gCmp, r_lt, r_gt, r_le, r_ge, r_eqi, r_nei, r_isN, r_isI, r_inN, r_inI, r_neg', r_at0, r_at1, r_at2, r_ort, r_onx, r_lenl, r_lent, r_lenr, r_abs, r_intb, r_inti, r_max2, r_min2, r_tupt, r_tupl, r_tupr, r_listt, r_listl, r_listr, r_p6, r_p9, r_p11, r_p18, r_mkT0, r_mkF0, r_mkM0, r_mkT1, r_mkF1, r_mkM1, r_mkT2, r_mkF2, r_mkM2, r_mkT3, r_mkF3, r_mkM3, r_mkT4, r_mkF4, r_mkM4, r_mkT5, r_mkF5, r_mkM5, r_fld, r_gfld, r_isx, r_isxE, r_isxN, r_bcnt, r_catX, r_rai, r_tryk, r_tryN, r_tryR, r_tryX, r_oxc, r_bindX, sq_t, sq_f, q_seq, q_src, q_len, q_tup, q_list, q_asg, q_pur, q_srt, q_srl, optV_n, optV_s, sgM, List.length_map]
    by_cases hs : slips F f = []
    · have e : moor F m = fun i => moor F m i := rfl
      have st := stand_iff.mp hs
      have le := (moor_ok ok m).least f st h1
      have eq : mks F.n f = mks F.n (moor F m) := List.map_congr_left fun i hi => by
        have hi := List.mem_range.mp hi
        have a := h2 i hi
        have b := le i hi
        rw [Int.le_antisymm a b]
      refine ⟨some (.lst ((slips F f).map (ropeV true))), o4, o5, o6, ?_⟩
      rw [hs, eq]
      simp only [List.length_nil, List.map_nil]
      rfl
    · have hl : 0 < (slips F f).length := List.length_pos_iff.mpr hs
      have hl' : (0 : Int) < ((slips F f).length : Int) := by omega
      have sub : ∀ r ∈ slips F f, r ∈ F.ropes := fun r hr => (List.mem_filter.mp hr).1
      obtain ⟨p4, p5, p6, e⟩ := pulls_c (s := s) (v := v) (F := F) (b := b) (cl := callF P (n + 1)) (slips F f) (fun r hr => ok.lt1 r (sub r hr)) (fun r hr => ok.lt2 r (sub r hr)) f (some (.lst ((slips F f).map (ropeV true)))) o4 o5 o6
      have hv : seqOf (s ++ [.lst (mks F.n ((slips F f).foldl pull f))]) (.ref s.length) = some (mks F.n ((slips F f).foldl pull f)) := kid_of (by rw [List.getElem?_append_right (Nat.le_refl _)]; simp)
      have br := broken_ok (b := b) hP ok hv n
      obtain ⟨q3, q4, q5, q6, e9⟩ := moored_c hP ok n fuel _ p4 p5 p6 (fun i hi => Int.le_trans (h1 i hi) (pulls_up _ _ i)) (pulls_le ok (moor_ok ok m).st _ f sub h2) (by
        have := round_less ok (moor_ok ok m) h1 h2 hs
        show left (moor F m) ((F.ropes.filter (slip f)).foldl pull f) F.n < fuel
        omega)
      refine ⟨q3, q4, q5, q6, ?_⟩
      simp only [hl', decide_true, if_true, e, br, r_bind, r_assoc, r_lift, r_noX, r_var, r_lit, r_vvn, r_vvb, r_vvi, r_vvs, r_bin, r_neg, r_no, r_conj, r_disj, r_cmp, r_chain, r_ite, r_tup, r_lst, r_idx, r_sl, r_call, r_callk, r_bi, r_bm, r_comp, r_nil, r_cons, r_and1, r_and, r_or1, r_or, r_c0, r_c1, r_range, r_zip, r_enum, r_pl, r_s0, r_s, r_tnx, r_trt, r_tbk, r_tct, r_txc, r_cat, r_asg, r_sub, r_aug, r_expr, r_ret, r_ife, r_for, r_asgv, r_asgt, r_asgl, r_asg0, r_asgc, r_mapS, r_get0, r_gets, r_set0, r_sets, r_wip0, r_wip, r_trb, r_tri, r_ii, r_add, r_subi, r_gIdx, r_dcomp, r_scomp, r_sqt, r_sql, r_sqr, r_gCmp, r_lt, r_gt, r_le, r_ge, r_eqi, r_nei, r_isN, r_isI, r_inN, r_inI, r_neg', r_at0, r_at1, r_at2, r_ort, r_onx, r_lenl, r_lent, r_lenr, r_abs, r_intb, r_inti, r_max2, r_min2, r_tupt, r_tupl, r_tupr, r_listt, r_listl, r_listr, r_p6, r_p9, r_p11, r_p18, r_mkT0, r_mkF0, r_mkM0, r_mkT1, r_mkF1, r_mkM1, r_mkT2, r_mkF2, r_mkM2, r_mkT3, r_mkF3, r_mkM3, r_mkT4, r_mkF4, r_mkM4, r_mkT5, r_mkF5, r_mkM5, r_fld, r_gfld, r_isx, r_isxE, r_isxN, r_bcnt, r_catX, r_rai, r_tryk, r_tryN, r_tryR, r_tryX, r_oxc, r_bindX, sq_t, sq_f, q_seq, q_src, q_len, q_tup, q_list, q_asg, q_pur, q_srt, q_srl, optV_n, optV_s, whK_nx]
      rw [e9]
      rfl
theorem moored_e (hP : P "broken" = some fn_broken) (ok : F.Ok) (n : Nat) (c : Bool) : ∃ S, exs (callF P (n + 1)) fn_moored.body [some (seaV b F), some (mkV c F.n m), none, none, none, none, none] s = .ok (.rt (mkV true F.n (moor F m))) (s ++ [S]) := by
  refine ⟨.lst (mks F.n (moor F m)), ?_⟩
  have sz : ∀ f : Mk, (mks F.n f).length ≤ szL := fun f => sz_of (by have := ok.few; simp; omega)
  have e1 : mkL true (mks F.n m) s = .ok (.ref s.length) (s ++ [.lst (mks F.n m)]) := mkL_t (sz m)
  have hv : seqOf (s ++ [.lst (mks F.n m)]) (mkV c F.n m) = some (mks F.n m) := q_seq
  have br := broken_ok (b := b) hP ok hv n
  obtain ⟨o3, o4, o5, o6, e⟩ := moored_c (s := s) (v := mkV c F.n m) (b := b) hP ok n wfuel m none none none (fun _ _ => Int.le_refl _) (moor_ok ok m).up (by
    have h1 := left_le (moor F m) m F.n
    have h2 := ok.few
    unfold wfuel
    omega)
  have kd : kid (s ++ [.lst (mks F.n (moor F m))]) s.length = some (mks F.n (moor F m)) := kid_of (by rw [List.getElem?_append_right (Nat.le_refl _)]; simp)
  have e2 : mkT (mks F.n (moor F m)) (s ++ [.lst (mks F.n (moor F m))]) = .ok (mkV true F.n (moor F m)) (s ++ [.lst (mks F.n (moor F m))]) := mkT_k (sz _)
  have l1 : ∀ S, biV true .list [mkV c F.n m] S = mkL true (mks F.n m) S := fun S => q_list true
  simp only [fn_moored, r_s, r_asg, r_tup, r_cons, r_nil, r_bi, r_var, r_get0, r_gets, r_bind, r_assoc, l1, e1, r_call, br, r_mkT2, r_asgt, r_asgc, r_asgv, r_asg0, r_set0, r_sets, r_mapS, r_lift, r_cat, r_tnx, r_whl]
  rw [e]
  simp only [r_bind, r_assoc, r_lift, r_noX, r_var, r_lit, r_vvn, r_vvb, r_vvi, r_vvs, r_bin, r_neg, r_no, r_conj, r_disj, r_cmp, r_chain, r_ite, r_tup, r_lst, r_idx, r_sl, r_call, r_callk, r_bi, r_bm, r_comp, r_nil, r_cons, r_and1, r_and, r_or1, r_or, r_c0, r_c1, r_range, r_zip, r_enum, r_pl, r_s0, r_s, r_tnx, r_trt, r_tbk, r_tct, r_txc, r_cat, r_asg, r_sub, r_aug, r_expr, r_ret, r_ife, r_for, r_asgv, r_asgt, r_asgl, r_asg0, r_asgc, r_mapS, r_get0, r_gets, r_set0, r_sets, r_wip0, r_wip, r_trb, r_tri, r_ii, r_add, r_subi, r_gIdx, r_dcomp, r_scomp, r_sqt, r_sql, r_sqr, r_gCmp, r_lt, r_gt, r_le, r_ge, r_eqi, r_nei, r_isN, r_isI, r_inN, r_inI, r_neg', r_at0, r_at1, r_at2, r_ort, r_onx, r_lenl, r_lent, r_lenr, r_abs, r_intb, r_inti, r_max2, r_min2, r_tupt, r_tupl, r_tupr, r_listt, r_listl, r_listr, r_p6, r_p9, r_p11, r_p18, r_mkT0, r_mkF0, r_mkM0, r_mkT1, r_mkF1, r_mkM1, r_mkT2, r_mkF2, r_mkM2, r_mkT3, r_mkF3, r_mkM3, r_mkT4, r_mkF4, r_mkM4, r_mkT5, r_mkF5, r_mkM5, r_fld, r_gfld, r_isx, r_isxE, r_isxN, r_bcnt, r_catX, r_rai, r_tryk, r_tryN, r_tryR, r_tryX, r_oxc, r_bindX, sq_t, sq_f, q_seq, q_src, q_len, q_tup, q_list, q_asg, q_pur, q_srt, q_srl, optV_n, optV_s, sgM, kd, e2]
theorem moored_ok (hB : P "broken" = some fn_broken) (hP : P "moored" = some fn_moored) (ok : F.Ok) (n : Nat) (c : Bool) : callF P (n + 2) false "moored" [seaV b F, mkV c F.n m] s = .ok (mkV true F.n (moor F m)) s := by
  rw [callF_run hP rfl]
  obtain ⟨S, e⟩ := moored_e (b := b) (s := s) (m := m) hB ok n c
  show (exs (callF P (n + 1)) fn_moored.body [some (seaV b F), some (mkV c F.n m), none, none, none, none, none] s).bind _ = _
  rw [e]
  exact fin_drop (mkV_pur _ _ _)
theorem moored_k (hB : P "broken" = some fn_broken) (hP : P "moored" = some fn_moored) (ok : F.Ok) (n : Nat) (c : Bool) : ∃ S, callF P (n + 2) true "moored" [seaV b F, mkV c F.n m] s = .ok (mkV true F.n (moor F m)) (s ++ [S]) := by
  rw [callF_run hP rfl]
  obtain ⟨S, e⟩ := moored_e (b := b) (s := s) (m := m) hB ok n c
  refine ⟨S, ?_⟩
  show (exs (callF P (n + 1)) fn_moored.body [some (seaV b F), some (mkV c F.n m), none, none, none, none, none] s).bind _ = _
  rw [e]
  rfl
end
end Tw
set_option Elab.async false
set_option linter.all false
set_option autoImplicit false
set_option maxRecDepth 100000
/-! LibStd: numbers, marks, standing. -/
namespace Tw
def fn__law_holds : Fn := ⟨2, 5, [.ret (.bi false .all [(.comp false (.cmp .ge (.idx (.var 1) (.var 3)) (.bin false .sub (.idx (.var 1) (.var 2)) (.var 4))) (.tup [(.var 2), (.var 3), (.var 4)]) (.pl (.idx (.var 0) (.lit (.int 1)))) [] [2, 3, 4])])]⟩
section
variable {P : Pg} {F : Sea} {s : Hs} {b c : Bool} {m : Mk} {v : VV}
theorem r_isiI (d : Bool) (ts : List Ty) (i : Int) : biV d (.isinst ts) [.int i] s = .ok (.bl (ts.any (isTy s (.int i)))) s := id rfl
theorem r_isiT (d : Bool) (ts : List Ty) (xs : List VV) : biV d (.isinst ts) [.tup xs] s = .ok (.bl (ts.any (isTy s (.tup xs)))) s := id rfl
theorem r_isiL (d : Bool) (ts : List Ty) (xs : List VV) : biV d (.isinst ts) [.lst xs] s = .ok (.bl (ts.any (isTy s (.lst xs)))) s := id rfl
theorem isTy_ii (i : Int) : isTy s (.int i) .int = true := id rfl
theorem isTy_ib (i : Int) : isTy s (.int i) .bool = false := id rfl
theorem isTy_il (i : Int) : isTy s (.int i) .list = false := id rfl
theorem isTy_it (i : Int) : isTy s (.int i) .tuple = false := id rfl
theorem isTy_tt (xs : List VV) : isTy s (.tup xs) .tuple = true := id rfl
theorem isTy_tl (xs : List VV) : isTy s (.tup xs) .list = false := id rfl
theorem isTy_ll (xs : List VV) : isTy s (.lst xs) .list = true := id rfl
theorem any_n {α : Type} (p : α → Bool) : ([] : List α).any p = false := id rfl
theorem any_c {α : Type} (p : α → Bool) (a : α) (l : List α) : (a :: l).any p = (p a || l.any p) := id rfl
theorem number_ok (hP : P "is_number" = some fn_is_number) (n : Nat) (i : Int) : callF P (n + 1) false "is_number" [.int i] s = .ok (.bl true) s := by
  rw [callF_run hP rfl]
  simp only [fn_is_number, r_bind, r_assoc, r_lift, r_noX, r_var, r_lit, r_vvn, r_vvb, r_vvi, r_vvs, r_bin, r_neg, r_no, r_conj, r_disj, r_cmp, r_chain, r_ite, r_tup, r_lst, r_idx, r_sl, r_call, r_callk, r_bi, r_bm, r_comp, r_nil, r_cons, r_and1, r_and, r_or1, r_or, r_c0, r_c1, r_range, r_zip, r_enum, r_pl, r_s0, r_s, r_tnx, r_trt, r_tbk, r_tct, r_txc, r_cat, r_asg, r_sub, r_aug, r_expr, r_ret, r_ife, r_for, r_asgv, r_asgt, r_asgl, r_asg0, r_asgc, r_mapS, r_get0, r_gets, r_set0, r_sets, r_wip0, r_wip, r_trb, r_tri, r_ii, r_add, r_subi, r_gIdx, r_dcomp, r_scomp, r_sqt, r_sql, r_sqr, r_gCmp, r_lt, r_gt, r_le, r_ge, r_eqi, r_nei, r_isN, r_isI, r_inN, r_inI, r_neg', r_at0, r_at1, r_at2, r_ort, r_onx, r_lenl, r_lent, r_lenr, r_abs, r_intb, r_inti, r_max2, r_min2, r_tupt, r_tupl, r_tupr, r_listt, r_listl, r_listr, r_p6, r_p9, r_p11, r_p18, r_mkT0, r_mkF0, r_mkM0, r_mkT1, r_mkF1, r_mkM1, r_mkT2, r_mkF2, r_mkM2, r_mkT3, r_mkF3, r_mkM3, r_mkT4, r_mkF4, r_mkM4, r_mkT5, r_mkF5, r_mkM5, r_fld, r_gfld, r_isx, r_isxE, r_isxN, r_bcnt, r_catX, r_rai, r_tryk, r_tryN, r_tryR, r_tryX, r_oxc, r_bindX, sq_t, sq_f, q_seq, q_src, q_len, q_tup, q_list, q_asg, q_pur, q_srt, q_srl, optV_n, optV_s, r_isiI, r_isiT, r_isiL, isTy_ii, isTy_ib, isTy_il, isTy_it, isTy_tt, isTy_tl, isTy_ll, any_n, any_c, List.map_cons, List.map_nil, List.replicate, List.cons_append, List.nil_append, Nat.reduceSub, Bool.or_false, if_true, Bool.not_false]
  exact fin_same rfl
theorem count_ok (hN : P "is_number" = some fn_is_number) (hP : P "is_count" = some fn_is_count) (n : Nat) (i : Int) : callF P (n + 2) false "is_count" [.int i] s = .ok (.bl (decide (0 ≤ i))) s := by
  rw [callF_run hP rfl]
  have e := number_ok (s := s) hN n i
  simp only [fn_is_count, r_bind, r_assoc, r_lift, r_noX, r_var, r_lit, r_vvn, r_vvb, r_vvi, r_vvs, r_bin, r_neg, r_no, r_conj, r_disj, r_cmp, r_chain, r_ite, r_tup, r_lst, r_idx, r_sl, r_call, r_callk, r_bi, r_bm, r_comp, r_nil, r_cons, r_and1, r_and, r_or1, r_or, r_c0, r_c1, r_range, r_zip, r_enum, r_pl, r_s0, r_s, r_tnx, r_trt, r_tbk, r_tct, r_txc, r_cat, r_asg, r_sub, r_aug, r_expr, r_ret, r_ife, r_for, r_asgv, r_asgt, r_asgl, r_asg0, r_asgc, r_mapS, r_get0, r_gets, r_set0, r_sets, r_wip0, r_wip, r_trb, r_tri, r_ii, r_add, r_subi, r_gIdx, r_dcomp, r_scomp, r_sqt, r_sql, r_sqr, r_gCmp, r_lt, r_gt, r_le, r_ge, r_eqi, r_nei, r_isN, r_isI, r_inN, r_inI, r_neg', r_at0, r_at1, r_at2, r_ort, r_onx, r_lenl, r_lent, r_lenr, r_abs, r_intb, r_inti, r_max2, r_min2, r_tupt, r_tupl, r_tupr, r_listt, r_listl, r_listr, r_p6, r_p9, r_p11, r_p18, r_mkT0, r_mkF0, r_mkM0, r_mkT1, r_mkF1, r_mkM1, r_mkT2, r_mkF2, r_mkM2, r_mkT3, r_mkF3, r_mkM3, r_mkT4, r_mkF4, r_mkM4, r_mkT5, r_mkF5, r_mkM5, r_fld, r_gfld, r_isx, r_isxE, r_isxN, r_bcnt, r_catX, r_rai, r_tryk, r_tryN, r_tryR, r_tryX, r_oxc, r_bindX, sq_t, sq_f, q_seq, q_src, q_len, q_tup, q_list, q_asg, q_pur, q_srt, q_srl, optV_n, optV_s, r_isiI, r_isiT, r_isiL, isTy_ii, isTy_ib, isTy_il, isTy_it, isTy_tt, isTy_tl, isTy_ll, any_n, any_c, List.map_cons, List.map_nil, List.replicate, List.cons_append, List.nil_append, Nat.reduceSub, e, if_true]
  exact fin_same rfl
theorem bls_map {α : Type} {p : α → Bool} : ∀ {l : List α}, mapO blOf (l.map fun a => VV.bl (p a)) = some (l.map p)
  | [] => rfl
  | a :: l => by
    rw [List.map_cons, List.map_cons]
    unfold mapO
    rw [bls_map (l := l)]
    rfl
theorem r_alll {α : Type} {p : α → Bool} {l : List α} (d : Bool) : biV d .all [.lst (l.map fun a => VV.bl (p a))] s = .ok (.bl (l.all p)) s := by
  show lift ((seqBls s (.lst (l.map fun a => VV.bl (p a)))).map fun bs => VV.bl (bs.all id)) s = _
  have e : seqBls s (.lst (l.map fun a => VV.bl (p a))) = some (l.map p) := bls_map
  rw [e]
  show Out.ok (VV.bl ((l.map p).all id)) s = _
  rw [List.all_map]
  rfl
theorem marks_ok (hN : P "is_number" = some fn_is_number) (hC : P "is_count" = some fn_is_count) (hP : P "are_marks" = some fn_are_marks) (k : Nat) (n : Nat) (hn : n ≤ 64) : callF P (k + 3) false "are_marks" [.int n, mkV true n m] s = .ok (.bl ((List.range n).all fun i => decide (0 ≤ m i))) s := by
  rw [callF_run hP rfl]
  have e := fun i => count_ok (s := s) hN hC k i
  have c1 : compL [] (stepC (callF P (k + 2)) (.call false "is_count" [(.var 2)]) (.var 2) [] [2] [some (.int n), some (mkV true n m), none]) ((List.range n).map fun i => VV.int (m i)) s = .ok ((List.range n).map fun i => VV.bl (decide (0 ≤ m i))) s := compL_map rfl fun i _ => by
    simp only [stepC, r_bind, r_assoc, r_lift, r_noX, r_var, r_lit, r_vvn, r_vvb, r_vvi, r_vvs, r_bin, r_neg, r_no, r_conj, r_disj, r_cmp, r_chain, r_ite, r_tup, r_lst, r_idx, r_sl, r_call, r_callk, r_bi, r_bm, r_comp, r_nil, r_cons, r_and1, r_and, r_or1, r_or, r_c0, r_c1, r_range, r_zip, r_enum, r_pl, r_s0, r_s, r_tnx, r_trt, r_tbk, r_tct, r_txc, r_cat, r_asg, r_sub, r_aug, r_expr, r_ret, r_ife, r_for, r_asgv, r_asgt, r_asgl, r_asg0, r_asgc, r_mapS, r_get0, r_gets, r_set0, r_sets, r_wip0, r_wip, r_trb, r_tri, r_ii, r_add, r_subi, r_gIdx, r_dcomp, r_scomp, r_sqt, r_sql, r_sqr, r_gCmp, r_lt, r_gt, r_le, r_ge, r_eqi, r_nei, r_isN, r_isI, r_inN, r_inI, r_neg', r_at0, r_at1, r_at2, r_ort, r_onx, r_lenl, r_lent, r_lenr, r_abs, r_intb, r_inti, r_max2, r_min2, r_tupt, r_tupl, r_tupr, r_listt, r_listl, r_listr, r_p6, r_p9, r_p11, r_p18, r_mkT0, r_mkF0, r_mkM0, r_mkT1, r_mkF1, r_mkM1, r_mkT2, r_mkF2, r_mkM2, r_mkT3, r_mkF3, r_mkM3, r_mkT4, r_mkF4, r_mkM4, r_mkT5, r_mkF5, r_mkM5, r_fld, r_gfld, r_isx, r_isxE, r_isxN, r_bcnt, r_catX, r_rai, r_tryk, r_tryN, r_tryR, r_tryX, r_oxc, r_bindX, sq_t, sq_f, q_seq, q_src, q_len, q_tup, q_list, q_asg, q_pur, q_srt, q_srl, optV_n, optV_s, r_isiI, r_isiT, r_isiL, isTy_ii, isTy_ib, isTy_il, isTy_it, isTy_tt, isTy_tl, isTy_ll, any_n, any_c, e, if_true]
  have k1 : mkL false ((List.range n).map fun i => VV.bl (decide (0 ≤ m i))) s = .ok (.lst ((List.range n).map fun i => VV.bl (decide (0 ≤ m i)))) s := mkL_f (by rw [List.length_map, List.length_range]; exact sz_of (by omega))
  have ml : ((mks n m).length : Int) = n := by simp
  simp only [mkV, sq_t] at c1 ⊢
  simp only [fn_are_marks, r_bind, r_assoc, r_lift, r_noX, r_var, r_lit, r_vvn, r_vvb, r_vvi, r_vvs, r_bin, r_neg, r_no, r_conj, r_disj, r_cmp, r_chain, r_ite, r_tup, r_lst, r_idx, r_sl, r_call, r_callk, r_bi, r_bm, r_comp, r_nil, r_cons, r_and1, r_and, r_or1, r_or, r_c0, r_c1, r_range, r_zip, r_enum, r_pl, r_s0, r_s, r_tnx, r_trt, r_tbk, r_tct, r_txc, r_cat, r_asg, r_sub, r_aug, r_expr, r_ret, r_ife, r_for, r_asgv, r_asgt, r_asgl, r_asg0, r_asgc, r_mapS, r_get0, r_gets, r_set0, r_sets, r_wip0, r_wip, r_trb, r_tri, r_ii, r_add, r_subi, r_gIdx, r_dcomp, r_scomp, r_sqt, r_sql, r_sqr, r_gCmp, r_lt, r_gt, r_le, r_ge, r_eqi, r_nei, r_isN, r_isI, r_inN, r_inI, r_neg', r_at0, r_at1, r_at2, r_ort, r_onx, r_lenl, r_lent, r_lenr, r_abs, r_intb, r_inti, r_max2, r_min2, r_tupt, r_tupl, r_tupr, r_listt, r_listl, r_listr, r_p6, r_p9, r_p11, r_p18, r_mkT0, r_mkF0, r_mkM0, r_mkT1, r_mkF1, r_mkM1, r_mkT2, r_mkF2, r_mkM2, r_mkT3, r_mkF3, r_mkM3, r_mkT4, r_mkF4, r_mkM4, r_mkT5, r_mkF5, r_mkM5, r_fld, r_gfld, r_isx, r_isxE, r_isxN, r_bcnt, r_catX, r_rai, r_tryk, r_tryN, r_tryR, r_tryX, r_oxc, r_bindX, sq_t, sq_f, q_seq, q_src, q_len, q_tup, q_list, q_asg, q_pur, q_srt, q_srl, optV_n, optV_s, r_isiI, r_isiT, r_isiL, isTy_ii, isTy_ib, isTy_il, isTy_it, isTy_tt, isTy_tl, isTy_ll, any_n, any_c, List.map_cons, List.map_nil, List.replicate, List.cons_append, List.nil_append, Nat.reduceSub, Bool.or_false, if_true, ml, decide_true, c1, k1, r_alll]
  exact fin_same rfl
/-- as data -/
def sqD (b : Bool) (ds : List PySem.PyData) : PySem.PyData := if b then .tuple ds else .list ds
theorem toD_sq {n : Nat} {xs : List VV} {ds : List PySem.PyData} (h : mapO (toD n s) xs = some ds) : toD (n + 1) s (sq b xs) = some (sqD b ds) := by
  cases b
  · show (mapO (toD n s) xs).map PySem.PyData.list = _
    rw [h]
    rfl
  · show (mapO (toD n s) xs).map PySem.PyData.tuple = _
    rw [h]
    rfl
theorem mapO_to {α β : Type} {f : VV → Option β} {φ : α → VV} {ψ : α → β} : ∀ {l : List α}, (∀ a ∈ l, f (φ a) = some (ψ a)) → mapO f (l.map φ) = some (l.map ψ)
  | [], _ => rfl
  | a :: l, h => by
    rw [List.map_cons, List.map_cons]
    unfold mapO
    rw [h a List.mem_cons_self, mapO_to fun b hb => h b (List.mem_cons_of_mem _ hb)]
def ropeD (b : Bool) (r : Rope) : PySem.PyData := sqD b [.int r.1, .int r.2.1, .int r.2.2]
theorem toD_int (n : Nat) (i : Int) : toD n s (.int i) = some (.int i) := by cases n <;> rfl
theorem toD_rope (n : Nat) (r : Rope) : toD (n + 1) s (ropeV b r) = some (ropeD b r) := toD_sq (by
  unfold mapO
  rw [toD_int]
  unfold mapO
  rw [toD_int]
  unfold mapO
  rw [toD_int]
  rfl)
theorem eq_nil (l : List Rope) : cmpV s .eq (.lst (l.map (ropeV b))) (.lst []) = some l.isEmpty := by
  have e : toD dpt s (sq false (l.map (ropeV b))) = some (sqD false (l.map (ropeD b))) := toD_sq (n := 11) (mapO_to fun r _ => toD_rope 10 r)
  show (match toD dpt s (.lst (l.map (ropeV b))), toD dpt s (.lst []) with
    | some d, some e => some (PySem.PyData.eqv d e)
    | _, _ => none) = _
  rw [show (VV.lst (l.map (ropeV b))) = sq false (l.map (ropeV b)) from rfl, e]
  cases l <;> rfl
theorem standing_ok (hN : P "is_number" = some fn_is_number) (hC : P "is_count" = some fn_is_count) (hM : P "are_marks" = some fn_are_marks) (hB : P "broken" = some fn_broken) (hP : P "is_standing" = some fn_is_standing) (ok : F.Ok) (k : Nat) :
    callF P (k + 4) false "is_standing" [seaV b F, mkV true F.n m] s = .ok (.bl (((List.range F.n).all fun i => decide (0 ≤ m i)) && (slips F m).isEmpty)) s := by
  rw [callF_run hP rfl]
  have e1 := marks_ok (s := s) (m := m) hN hC hM k F.n ok.few
  have e2 := broken_ok (s := s) (b := b) (m := m) (v := mkV true F.n m) hB ok q_seq (k + 2)
  have sv : seqOf s (seaV b F) = some [.int F.n, sq b (F.ropes.map (ropeV b))] := q_seq
  generalize callF P (k + 3) = cl at *
  cases h : (List.range F.n).all fun i => decide (0 ≤ m i) with
  | false =>
    rw [h] at e1
    simp only [fn_is_standing, r_bind, r_assoc, r_lift, r_noX, r_var, r_lit, r_vvn, r_vvb, r_vvi, r_vvs, r_bin, r_neg, r_no, r_conj, r_disj, r_cmp, r_chain, r_ite, r_tup, r_lst, r_idx, r_sl, r_call, r_callk, r_bi, r_bm, r_comp, r_nil, r_cons, r_and1, r_and, r_or1, r_or, r_c0, r_c1, r_range, r_zip, r_enum, r_pl, r_s0, r_s, r_tnx, r_trt, r_tbk, r_tct, r_txc, r_cat, r_asg, r_sub, r_aug, r_expr, r_ret, r_ife, r_for, r_asgv, r_asgt, r_asgl, r_asg0, r_asgc, r_mapS, r_get0, r_gets, r_set0, r_sets, r_wip0, r_wip, r_trb, r_tri, r_ii, r_add, r_subi, r_gIdx, r_dcomp, r_scomp, r_sqt, r_sql, r_sqr, r_gCmp, r_lt, r_gt, r_le, r_ge, r_eqi, r_nei, r_isN, r_isI, r_inN, r_inI, r_neg', r_at0, r_at1, r_at2, r_ort, r_onx, r_lenl, r_lent, r_lenr, r_abs, r_intb, r_inti, r_max2, r_min2, r_tupt, r_tupl, r_tupr, r_listt, r_listl, r_listr, r_p6, r_p9, r_p11, r_p18, r_mkT0, r_mkF0, r_mkM0, r_mkT1, r_mkF1, r_mkM1, r_mkT2, r_mkF2, r_mkM2, r_mkT3, r_mkF3, r_mkM3, r_mkT4, r_mkF4, r_mkM4, r_mkT5, r_mkF5, r_mkM5, r_fld, r_gfld, r_isx, r_isxE, r_isxN, r_bcnt, r_catX, r_rai, r_tryk, r_tryN, r_tryR, r_tryX, r_oxc, r_bindX, sq_t, sq_f, q_seq, q_src, q_len, q_tup, q_list, q_asg, q_pur, q_srt, q_srl, optV_n, optV_s, r_isiI, r_isiT, r_isiL, isTy_ii, isTy_ib, isTy_il, isTy_it, isTy_tt, isTy_tl, isTy_ll, any_n, any_c, List.map_cons, List.map_nil, List.replicate, List.cons_append, List.nil_append, Nat.reduceSub, sv, e1, if_false, Bool.false_eq_true, Bool.false_and]
    exact fin_same rfl
  | true =>
    rw [h] at e1
    simp only [fn_is_standing, r_bind, r_assoc, r_lift, r_noX, r_var, r_lit, r_vvn, r_vvb, r_vvi, r_vvs, r_bin, r_neg, r_no, r_conj, r_disj, r_cmp, r_chain, r_ite, r_tup, r_lst, r_idx, r_sl, r_call, r_callk, r_bi, r_bm, r_comp, r_nil, r_cons, r_and1, r_and, r_or1, r_or, r_c0, r_c1, r_range, r_zip, r_enum, r_pl, r_s0, r_s, r_tnx, r_trt, r_tbk, r_tct, r_txc, r_cat, r_asg, r_sub, r_aug, r_expr, r_ret, r_ife, r_for, r_asgv, r_asgt, r_asgl, r_asg0, r_asgc, r_mapS, r_get0, r_gets, r_set0, r_sets, r_wip0, r_wip, r_trb, r_tri, r_ii, r_add, r_subi, r_gIdx, r_dcomp, r_scomp, r_sqt, r_sql, r_sqr, r_gCmp, r_lt, r_gt, r_le, r_ge, r_eqi, r_nei, r_isN, r_isI, r_inN, r_inI, r_neg', r_at0, r_at1, r_at2, r_ort, r_onx, r_lenl, r_lent, r_lenr, r_abs, r_intb, r_inti, r_max2, r_min2, r_tupt, r_tupl, r_tupr, r_listt, r_listl, r_listr, r_p6, r_p9, r_p11, r_p18, r_mkT0, r_mkF0, r_mkM0, r_mkT1, r_mkF1, r_mkM1, r_mkT2, r_mkF2, r_mkM2, r_mkT3, r_mkF3, r_mkM3, r_mkT4, r_mkF4, r_mkM4, r_mkT5, r_mkF5, r_mkM5, r_fld, r_gfld, r_isx, r_isxE, r_isxN, r_bcnt, r_catX, r_rai, r_tryk, r_tryN, r_tryR, r_tryX, r_oxc, r_bindX, sq_t, sq_f, q_seq, q_src, q_len, q_tup, q_list, q_asg, q_pur, q_srt, q_srl, optV_n, optV_s, r_isiI, r_isiT, r_isiL, isTy_ii, isTy_ib, isTy_il, isTy_it, isTy_tt, isTy_tl, isTy_ll, any_n, any_c, List.map_cons, List.map_nil, List.replicate, List.cons_append, List.nil_append, Nat.reduceSub, sv, e1, if_true, e2, eq_nil, Bool.true_and]
    exact fin_same rfl
theorem holds_ok (hP : P "_law_holds" = some fn__law_holds) (ok : F.Ok) (k : Nat) (hv : seqOf s v = some (mks F.n m)) : callF P (k + 1) false "_law_holds" [seaV b F, v] s = .ok (.bl (F.ropes.all fun r => decide (m r.1 - r.2.2 ≤ m r.2.1))) s := by
  rw [callF_run hP rfl]
  have sv : seqOf s (seaV b F) = some [.int F.n, sq b (F.ropes.map (ropeV b))] := q_seq
  have c1 : compL [] (stepC (callF P k) (.cmp .ge (.idx (.var 1) (.var 3)) (.bin false .sub (.idx (.var 1) (.var 2)) (.var 4))) (.tup [(.var 2), (.var 3), (.var 4)]) [] [2, 3, 4] [some (seaV b F), some v, none, none, none]) (F.ropes.map (ropeV b)) s =
      .ok (F.ropes.map fun r => VV.bl (decide (m r.1 - r.2.2 ≤ m r.2.1))) s := compL_map rfl fun r hr => by
    simp only [stepC, ropeV, r_bind, r_assoc, r_lift, r_noX, r_var, r_lit, r_vvn, r_vvb, r_vvi, r_vvs, r_bin, r_neg, r_no, r_conj, r_disj, r_cmp, r_chain, r_ite, r_tup, r_lst, r_idx, r_sl, r_call, r_callk, r_bi, r_bm, r_comp, r_nil, r_cons, r_and1, r_and, r_or1, r_or, r_c0, r_c1, r_range, r_zip, r_enum, r_pl, r_s0, r_s, r_tnx, r_trt, r_tbk, r_tct, r_txc, r_cat, r_asg, r_sub, r_aug, r_expr, r_ret, r_ife, r_for, r_asgv, r_asgt, r_asgl, r_asg0, r_asgc, r_mapS, r_get0, r_gets, r_set0, r_sets, r_wip0, r_wip, r_trb, r_tri, r_ii, r_add, r_subi, r_gIdx, r_dcomp, r_scomp, r_sqt, r_sql, r_sqr, r_gCmp, r_lt, r_gt, r_le, r_ge, r_eqi, r_nei, r_isN, r_isI, r_inN, r_inI, r_neg', r_at0, r_at1, r_at2, r_ort, r_onx, r_lenl, r_lent, r_lenr, r_abs, r_intb, r_inti, r_max2, r_min2, r_tupt, r_tupl, r_tupr, r_listt, r_listl, r_listr, r_p6, r_p9, r_p11, r_p18, r_mkT0, r_mkF0, r_mkM0, r_mkT1, r_mkF1, r_mkM1, r_mkT2, r_mkF2, r_mkM2, r_mkT3, r_mkF3, r_mkM3, r_mkT4, r_mkF4, r_mkM4, r_mkT5, r_mkF5, r_mkM5, r_fld, r_gfld, r_isx, r_isxE, r_isxN, r_bcnt, r_catX, r_rai, r_tryk, r_tryN, r_tryR, r_tryX, r_oxc, r_bindX, sq_t, sq_f, q_seq, q_src, q_len, q_tup, q_list, q_asg, q_pur, q_srt, q_srl, optV_n, optV_s, r_isiI, r_isiT, r_isiL, isTy_ii, isTy_ib, isTy_il, isTy_it, isTy_tt, isTy_tl, isTy_ll, any_n, any_c, hv, mks, at_rng (ok.lt1 r hr), at_rng (ok.lt2 r hr), if_true]
  have k1 : mkL false (F.ropes.map fun r => VV.bl (decide (m r.1 - r.2.2 ≤ m r.2.1))) s = .ok (.lst (F.ropes.map fun r => VV.bl (decide (m r.1 - r.2.2 ≤ m r.2.1)))) s := mkL_f (by rw [List.length_map]; exact sz_of (by have := ok.len; omega))
  simp only [fn__law_holds, r_bind, r_assoc, r_lift, r_noX, r_var, r_lit, r_vvn, r_vvb, r_vvi, r_vvs, r_bin, r_neg, r_no, r_conj, r_disj, r_cmp, r_chain, r_ite, r_tup, r_lst, r_idx, r_sl, r_call, r_callk, r_bi, r_bm, r_comp, r_nil, r_cons, r_and1, r_and, r_or1, r_or, r_c0, r_c1, r_range, r_zip, r_enum, r_pl, r_s0, r_s, r_tnx, r_trt, r_tbk, r_tct, r_txc, r_cat, r_asg, r_sub, r_aug, r_expr, r_ret, r_ife, r_for, r_asgv, r_asgt, r_asgl, r_asg0, r_asgc, r_mapS, r_get0, r_gets, r_set0, r_sets, r_wip0, r_wip, r_trb, r_tri, r_ii, r_add, r_subi, r_gIdx, r_dcomp, r_scomp, r_sqt, r_sql, r_sqr, r_gCmp, r_lt, r_gt, r_le, r_ge, r_eqi, r_nei, r_isN, r_isI, r_inN, r_inI, r_neg', r_at0, r_at1, r_at2, r_ort, r_onx, r_lenl, r_lent, r_lenr, r_abs, r_intb, r_inti, r_max2, r_min2, r_tupt, r_tupl, r_tupr, r_listt, r_listl, r_listr, r_p6, r_p9, r_p11, r_p18, r_mkT0, r_mkF0, r_mkM0, r_mkT1, r_mkF1, r_mkM1, r_mkT2, r_mkF2, r_mkM2, r_mkT3, r_mkF3, r_mkM3, r_mkT4, r_mkF4, r_mkM4, r_mkT5, r_mkF5, r_mkM5, r_fld, r_gfld, r_isx, r_isxE, r_isxN, r_bcnt, r_catX, r_rai, r_tryk, r_tryN, r_tryR, r_tryX, r_oxc, r_bindX, sq_t, sq_f, q_seq, q_src, q_len, q_tup, q_list, q_asg, q_pur, q_srt, q_srl, optV_n, optV_s, r_isiI, r_isiT, r_isiL, isTy_ii, isTy_ib, isTy_il, isTy_it, isTy_tt, isTy_tl, isTy_ll, any_n, any_c, List.map_cons, List.map_nil, List.replicate, List.cons_append, List.nil_append, Nat.reduceSub, sv, c1, k1, r_alll]
  exact fin_same rfl
end
end Tw
set_option Elab.async false
set_option linter.all false
set_option autoImplicit false
set_option maxRecDepth 100000
/-! LibData: values alike, values listed, boxes, cells. -/
namespace Tw
open PySem (PyData Str)
def fn__law_same : Fn := ⟨2, 2, [.ret (.cmp .eq (.bi false .repr [(.var 0)]) (.bi false .repr [(.var 1)]))]⟩
def fn__law_listed : Fn := ⟨1, 2, [.ret (.ite (.bi false (.isinst [.list, .tuple]) [(.var 0)]) (.comp false (.call false "_law_listed" [(.var 1)]) (.var 1) (.pl (.var 0)) [] [1]) (.var 0))]⟩
def fn__law_box : Fn := ⟨2, 3, [.asg (.var 2) (.idx (.var 0) (.var 1)), .ret (.lst true [(.bin false .mul (.bi false .abs [(.var 2)]) (.bi false .int [(.cmp .ge (.bi false .abs [(.var 2)]) (.bin false .pow (.lit (.int 10)) (.lit (.int 18))))])), (.bin false .add (.bin false .add (.bin false .mod (.var 2) (.lit (.int 2305843009213693951))) (.bin false .mul (.lit (.int 15485863)) (.var 1))) (.lit (.int 11))), (.lit (.int 0))])]⟩
def fn__law_cells : Fn := ⟨2, 5, [.asg (.var 2) (.disj [(.bi true .list [(.sl false (.var 0) (.lit .non) (.var 1))]), (.lst true [(.lit (.int 0))])]), .forr (.tup [(.var 3), (.var 4)]) (.enum (.sl false (.var 0) (.var 1) (.lit (.int 63)))) [.sub (.var 2) (.bin false .mod (.var 3) (.var 1)) (.bin false .add (.idx (.var 2) (.bin false .mod (.var 3) (.var 1))) (.bin false .mul (.var 4) (.bin false .add (.var 3) (.lit (.int 2)))))], .ret (.var 2)]⟩
section
variable {P : Pg} {F : Sea} {s : Hs} {b c : Bool} {m : Mk} {v : VV}
theorem r_eqs (a c : Str) : cmpV s .eq (.str a) (.str c) = some (decide (a = c)) := id rfl
theorem r_nes (a c : Str) : cmpV s .ne (.str a) (.str c) = some (!decide (a = c)) := id rfl
theorem repr_of {d : PyData} (h : toD dpt s v = some d) (w : wgt d ≤ 400000) : reprV s v = some d.shown := by
  unfold reprV
  rw [h]
  exact if_pos w
theorem r_repr (d : Bool) : biV d .repr [v] s = lift ((reprV s v).map .str) s := id rfl
theorem same_ok (hP : P "_law_same" = some fn__law_same) (n : Nat) {x y : VV} {d : PyData} (h1 : toD dpt s x = some d) (h2 : toD dpt s y = some d) (w : wgt d ≤ 400000) : callF P (n + 1) false "_law_same" [x, y] s = .ok (.bl true) s := by
  rw [callF_run hP rfl]
  simp only [fn__law_same, r_bind, r_assoc, r_lift, r_noX, r_var, r_lit, r_vvn, r_vvb, r_vvi, r_vvs, r_bin, r_neg, r_no, r_conj, r_disj, r_cmp, r_chain, r_ite, r_tup, r_lst, r_idx, r_sl, r_call, r_callk, r_bi, r_bm, r_comp, r_nil, r_cons, r_and1, r_and, r_or1, r_or, r_c0, r_c1, r_range, r_zip, r_enum, r_pl, r_s0, r_s, r_tnx, r_trt, r_tbk, r_tct, r_txc, r_cat, r_asg, r_sub, r_aug, r_expr, r_ret, r_ife, r_for, r_asgv, r_asgt, r_asgl, r_asg0, r_asgc, r_mapS, r_get0, r_gets, r_set0, r_sets, r_wip0, r_wip, r_trb, r_tri, r_ii, r_add, r_subi, r_gIdx, r_dcomp, r_scomp, r_sqt, r_sql, r_sqr, r_gCmp, r_lt, r_gt, r_le, r_ge, r_eqi, r_nei, r_isN, r_isI, r_inN, r_inI, r_neg', r_at0, r_at1, r_at2, r_ort, r_onx, r_lenl, r_lent, r_lenr, r_abs, r_intb, r_inti, r_max2, r_min2, r_tupt, r_tupl, r_tupr, r_listt, r_listl, r_listr, r_p6, r_p9, r_p11, r_p18, r_mkT0, r_mkF0, r_mkM0, r_mkT1, r_mkF1, r_mkM1, r_mkT2, r_mkF2, r_mkM2, r_mkT3, r_mkF3, r_mkM3, r_mkT4, r_mkF4, r_mkM4, r_mkT5, r_mkF5, r_mkM5, r_fld, r_gfld, r_isx, r_isxE, r_isxN, r_bcnt, r_catX, r_rai, r_tryk, r_tryN, r_tryR, r_tryX, r_oxc, r_bindX, sq_t, sq_f, q_seq, q_src, q_len, q_tup, q_list, q_asg, q_pur, q_srt, q_srl, optV_n, optV_s, r_isiI, r_isiT, r_isiL, isTy_ii, isTy_ib, isTy_il, isTy_it, isTy_tt, isTy_tl, isTy_ll, any_n, any_c, r_eqs, r_nes, r_repr, List.map_cons, List.map_nil, List.replicate, List.cons_append, List.nil_append, Nat.reduceSub, repr_of h1 w, repr_of h2 w, decide_true]
  exact fin_same rfl
theorem listed_int (hP : P "_law_listed" = some fn__law_listed) (n : Nat) (i : Int) : callF P (n + 1) false "_law_listed" [.int i] s = .ok (.int i) s := by
  rw [callF_run hP rfl]
  simp only [fn__law_listed, r_bind, r_assoc, r_lift, r_noX, r_var, r_lit, r_vvn, r_vvb, r_vvi, r_vvs, r_bin, r_neg, r_no, r_conj, r_disj, r_cmp, r_chain, r_ite, r_tup, r_lst, r_idx, r_sl, r_call, r_callk, r_bi, r_bm, r_comp, r_nil, r_cons, r_and1, r_and, r_or1, r_or, r_c0, r_c1, r_range, r_zip, r_enum, r_pl, r_s0, r_s, r_tnx, r_trt, r_tbk, r_tct, r_txc, r_cat, r_asg, r_sub, r_aug, r_expr, r_ret, r_ife, r_for, r_asgv, r_asgt, r_asgl, r_asg0, r_asgc, r_mapS, r_get0, r_gets, r_set0, r_sets, r_wip0, r_wip, r_trb, r_tri, r_ii, r_add, r_subi, r_gIdx, r_dcomp, r_scomp, r_sqt, r_sql, r_sqr, r_gCmp, r_lt, r_gt, r_le, r_ge, r_eqi, r_nei, r_isN, r_isI, r_inN, r_inI, r_neg', r_at0, r_at1, r_at2, r_ort, r_onx, r_lenl, r_lent, r_lenr, r_abs, r_intb, r_inti, r_max2, r_min2, r_tupt, r_tupl, r_tupr, r_listt, r_listl, r_listr, r_p6, r_p9, r_p11, r_p18, r_mkT0, r_mkF0, r_mkM0, r_mkT1, r_mkF1, r_mkM1, r_mkT2, r_mkF2, r_mkM2, r_mkT3, r_mkF3, r_mkM3, r_mkT4, r_mkF4, r_mkM4, r_mkT5, r_mkF5, r_mkM5, r_fld, r_gfld, r_isx, r_isxE, r_isxN, r_bcnt, r_catX, r_rai, r_tryk, r_tryN, r_tryR, r_tryX, r_oxc, r_bindX, sq_t, sq_f, q_seq, q_src, q_len, q_tup, q_list, q_asg, q_pur, q_srt, q_srl, optV_n, optV_s, r_isiI, r_isiT, r_isiL, isTy_ii, isTy_ib, isTy_il, isTy_it, isTy_tt, isTy_tl, isTy_ll, any_n, any_c, r_eqs, r_nes, r_repr, List.map_cons, List.map_nil, List.replicate, List.cons_append, List.nil_append, Nat.reduceSub, Bool.or_false, if_false, Bool.false_eq_true]
  exact fin_same rfl
theorem listed_seq (hP : P "_law_listed" = some fn__law_listed) (n : Nat) {l : List (VV × VV)} (hl : l.length ≤ 65536) (h : ∀ p ∈ l, callF P n false "_law_listed" [p.1] s = .ok p.2 s) (hp : ∀ p ∈ l, pur p.2 = true) : callF P (n + 1) false "_law_listed" [sq b (l.map Prod.fst)] s = .ok (.lst (l.map Prod.snd)) s := by
  rw [callF_run hP rfl]
  have c1 : compL [] (stepC (callF P n) (.call false "_law_listed" [(.var 1)]) (.var 1) [] [1] [some (sq b (l.map Prod.fst)), none]) (l.map Prod.fst) s = .ok (l.map Prod.snd) s := compL_map rfl fun p hp => by
    simp only [stepC, r_bind, r_assoc, r_lift, r_noX, r_var, r_lit, r_vvn, r_vvb, r_vvi, r_vvs, r_bin, r_neg, r_no, r_conj, r_disj, r_cmp, r_chain, r_ite, r_tup, r_lst, r_idx, r_sl, r_call, r_callk, r_bi, r_bm, r_comp, r_nil, r_cons, r_and1, r_and, r_or1, r_or, r_c0, r_c1, r_range, r_zip, r_enum, r_pl, r_s0, r_s, r_tnx, r_trt, r_tbk, r_tct, r_txc, r_cat, r_asg, r_sub, r_aug, r_expr, r_ret, r_ife, r_for, r_asgv, r_asgt, r_asgl, r_asg0, r_asgc, r_mapS, r_get0, r_gets, r_set0, r_sets, r_wip0, r_wip, r_trb, r_tri, r_ii, r_add, r_subi, r_gIdx, r_dcomp, r_scomp, r_sqt, r_sql, r_sqr, r_gCmp, r_lt, r_gt, r_le, r_ge, r_eqi, r_nei, r_isN, r_isI, r_inN, r_inI, r_neg', r_at0, r_at1, r_at2, r_ort, r_onx, r_lenl, r_lent, r_lenr, r_abs, r_intb, r_inti, r_max2, r_min2, r_tupt, r_tupl, r_tupr, r_listt, r_listl, r_listr, r_p6, r_p9, r_p11, r_p18, r_mkT0, r_mkF0, r_mkM0, r_mkT1, r_mkF1, r_mkM1, r_mkT2, r_mkF2, r_mkM2, r_mkT3, r_mkF3, r_mkM3, r_mkT4, r_mkF4, r_mkM4, r_mkT5, r_mkF5, r_mkM5, r_fld, r_gfld, r_isx, r_isxE, r_isxN, r_bcnt, r_catX, r_rai, r_tryk, r_tryN, r_tryR, r_tryX, r_oxc, r_bindX, sq_t, sq_f, q_seq, q_src, q_len, q_tup, q_list, q_asg, q_pur, q_srt, q_srl, optV_n, optV_s, r_isiI, r_isiT, r_isiL, isTy_ii, isTy_ib, isTy_il, isTy_it, isTy_tt, isTy_tl, isTy_ll, any_n, any_c, r_eqs, r_nes, r_repr, h p hp, if_true]
  have k1 : mkL false (l.map Prod.snd) s = .ok (.lst (l.map Prod.snd)) s := mkL_f (by rw [List.length_map]; exact sz_of hl)
  have t1 : biV false (.isinst [.list, .tuple]) [sq b (l.map Prod.fst)] s = .ok (.bl true) s := by cases b <;> rfl
  simp only [fn__law_listed, r_bind, r_assoc, r_lift, r_noX, r_var, r_lit, r_vvn, r_vvb, r_vvi, r_vvs, r_bin, r_neg, r_no, r_conj, r_disj, r_cmp, r_chain, r_ite, r_tup, r_lst, r_idx, r_sl, r_call, r_callk, r_bi, r_bm, r_comp, r_nil, r_cons, r_and1, r_and, r_or1, r_or, r_c0, r_c1, r_range, r_zip, r_enum, r_pl, r_s0, r_s, r_tnx, r_trt, r_tbk, r_tct, r_txc, r_cat, r_asg, r_sub, r_aug, r_expr, r_ret, r_ife, r_for, r_asgv, r_asgt, r_asgl, r_asg0, r_asgc, r_mapS, r_get0, r_gets, r_set0, r_sets, r_wip0, r_wip, r_trb, r_tri, r_ii, r_add, r_subi, r_gIdx, r_dcomp, r_scomp, r_sqt, r_sql, r_sqr, r_gCmp, r_lt, r_gt, r_le, r_ge, r_eqi, r_nei, r_isN, r_isI, r_inN, r_inI, r_neg', r_at0, r_at1, r_at2, r_ort, r_onx, r_lenl, r_lent, r_lenr, r_abs, r_intb, r_inti, r_max2, r_min2, r_tupt, r_tupl, r_tupr, r_listt, r_listl, r_listr, r_p6, r_p9, r_p11, r_p18, r_mkT0, r_mkF0, r_mkM0, r_mkT1, r_mkF1, r_mkM1, r_mkT2, r_mkF2, r_mkM2, r_mkT3, r_mkF3, r_mkM3, r_mkT4, r_mkF4, r_mkM4, r_mkT5, r_mkF5, r_mkM5, r_fld, r_gfld, r_isx, r_isxE, r_isxN, r_bcnt, r_catX, r_rai, r_tryk, r_tryN, r_tryR, r_tryX, r_oxc, r_bindX, sq_t, sq_f, q_seq, q_src, q_len, q_tup, q_list, q_asg, q_pur, q_srt, q_srl, optV_n, optV_s, r_isiI, r_isiT, r_isiL, isTy_ii, isTy_ib, isTy_il, isTy_it, isTy_tt, isTy_tl, isTy_ll, any_n, any_c, r_eqs, r_nes, r_repr, List.map_cons, List.map_nil, List.replicate, List.cons_append, List.nil_append, Nat.reduceSub, t1, if_true, c1, k1]
  exact fin_same (by
    show purs (l.map Prod.snd) = true
    exact purs_map hp)
theorem listed_rope (hP : P "_law_listed" = some fn__law_listed) (n : Nat) (r : Rope) : callF P (n + 2) false "_law_listed" [ropeV b r] s = .ok (ropeV false r) s :=
  listed_seq (b := b) hP (n + 1) (l := [(.int r.1, .int r.1), (.int r.2.1, .int r.2.1), (.int r.2.2, .int r.2.2)]) (by simp) (fun p hp => by
    simp only [List.mem_cons, List.not_mem_nil, or_false] at hp
    rcases hp with rfl | rfl | rfl <;> exact listed_int hP n _) (fun p hp => by
    simp only [List.mem_cons, List.not_mem_nil, or_false] at hp
    rcases hp with rfl | rfl | rfl <;> rfl)
theorem listed_ropes (hP : P "_law_listed" = some fn__law_listed) (ok : F.Ok) (n : Nat) : callF P (n + 3) false "_law_listed" [sq b (F.ropes.map (ropeV b))] s = .ok (sq false (F.ropes.map (ropeV false))) s := by
  have := listed_seq (b := b) (s := s) hP (n + 2) (l := F.ropes.map fun r => (ropeV b r, ropeV false r)) (by rw [List.length_map]; have := ok.len; omega) (fun p hp => by
    obtain ⟨r, hr, rfl⟩ := List.mem_map.mp hp
    exact listed_rope hP n r) (fun p hp => by
    obtain ⟨r, hr, rfl⟩ := List.mem_map.mp hp
    exact ropeV_pur false r)
  rw [List.map_map, List.map_map] at this
  exact this
theorem listed_sea (hP : P "_law_listed" = some fn__law_listed) (ok : F.Ok) (n : Nat) : callF P (n + 4) false "_law_listed" [seaV b F] s = .ok (seaV false F) s :=
  listed_seq (b := b) hP (n + 3) (l := [(.int F.n, .int F.n), (sq b (F.ropes.map (ropeV b)), sq false (F.ropes.map (ropeV false)))]) (by simp) (fun p hp => by
    simp only [List.mem_cons, List.not_mem_nil, or_false] at hp
    rcases hp with rfl | rfl
    · exact listed_int hP (n + 2) _
    · exact listed_ropes hP ok n) (fun p hp => by
    simp only [List.mem_cons, List.not_mem_nil, or_false] at hp
    rcases hp with rfl | rfl
    · rfl
    · show pur (sq false _) = true
      rw [q_pur]
      exact purs_map fun r _ => ropeV_pur _ _)
/-! data and their weights -/
theorem wgts_le {α : Type} {f : α → PyData} {w : Nat} : ∀ {l : List α}, (∀ a ∈ l, wgt (f a) ≤ w) → wgt.wgts (l.map f) ≤ l.length * w
  | [], _ => by simp [wgt.wgts]
  | a :: l, h => by
    rw [List.map_cons]
    unfold wgt.wgts
    have h1 := h a List.mem_cons_self
    have h2 := wgts_le (l := l) fun b hb => h b (List.mem_cons_of_mem _ hb)
    rw [List.length_cons, Nat.succ_mul]
    omega
theorem wgt_sq (b : Bool) (ds : List PyData) : wgt (sqD b ds) = 1 + wgt.wgts ds := by cases b <;> (unfold sqD; simp [wgt])
theorem wgt_int {i : Int} (h : i.natAbs < 10 ^ 30) : wgt (.int i) = 1 := by
  unfold wgt
  exact if_pos h
/-- drawing from a box: the cells' boxes -/
theorem box_new (hP : P "_law_box" = some fn__law_box) (n : Nat) {cs : List Int} {i : Nat} (hi : i < cs.length) (hl : cs.length ≤ 64) : ∃ b : Bx, callF P (n + 1) true "_law_box" [.lst (cs.map .int), .int i] s = .ok (.ref s.length) (s ++ [b.ob]) := by
  have a1 : atV (cs.map VV.int) (i : Int) = some (.int cs[i]) := at_nat (by rw [List.getElem?_map, List.getElem?_eq_getElem hi]; rfl)
  generalize cs[i] = z at a1
  have hz : 0 ≤ (if z < 0 then -z else z) := by split <;> omega
  generalize hz' : (if z < 0 then -z else z) = a at hz
  have hs : small (if decide (1000000000000000000 ≤ a) = true then 1 else 0) = true := by split <;> exact small_of (by decide) (by decide)
  have h2 : small (15485863 : Int) = true := by decide
  refine ⟨⟨a * (if decide (1000000000000000000 ≤ a) = true then 1 else 0), z % 2305843009213693951 + 15485863 * i + 11, 0, Int.mul_nonneg hz (by split <;> omega)⟩, ?_⟩
  rw [callF_run hP rfl]
  simp only [fn__law_box, r_bind, r_assoc, r_lift, r_noX, r_var, r_lit, r_vvn, r_vvb, r_vvi, r_vvs, r_bin, r_neg, r_no, r_conj, r_disj, r_cmp, r_chain, r_ite, r_tup, r_lst, r_idx, r_sl, r_call, r_callk, r_bi, r_bm, r_comp, r_nil, r_cons, r_and1, r_and, r_or1, r_or, r_c0, r_c1, r_range, r_zip, r_enum, r_pl, r_s0, r_s, r_tnx, r_trt, r_tbk, r_tct, r_txc, r_cat, r_asg, r_sub, r_aug, r_expr, r_ret, r_ife, r_for, r_asgv, r_asgt, r_asgl, r_asg0, r_asgc, r_mapS, r_get0, r_gets, r_set0, r_sets, r_wip0, r_wip, r_trb, r_tri, r_ii, r_add, r_subi, r_gIdx, r_dcomp, r_scomp, r_sqt, r_sql, r_sqr, r_gCmp, r_lt, r_gt, r_le, r_ge, r_eqi, r_nei, r_isN, r_isI, r_inN, r_inI, r_neg', r_at0, r_at1, r_at2, r_ort, r_onx, r_lenl, r_lent, r_lenr, r_abs, r_intb, r_inti, r_max2, r_min2, r_tupt, r_tupl, r_tupr, r_listt, r_listl, r_listr, r_p6, r_p9, r_p11, r_p18, r_mkT0, r_mkF0, r_mkM0, r_mkT1, r_mkF1, r_mkM1, r_mkT2, r_mkF2, r_mkM2, r_mkT3, r_mkF3, r_mkM3, r_mkT4, r_mkF4, r_mkM4, r_mkT5, r_mkF5, r_mkM5, r_fld, r_gfld, r_isx, r_isxE, r_isxN, r_bcnt, r_catX, r_rai, r_tryk, r_tryN, r_tryR, r_tryX, r_oxc, r_bindX, sq_t, sq_f, q_seq, q_src, q_len, q_tup, q_list, q_asg, q_pur, q_srt, q_srl, optV_n, optV_s, r_isiI, r_isiT, r_isiL, isTy_ii, isTy_ib, isTy_il, isTy_it, isTy_tt, isTy_tl, isTy_ll, any_n, any_c, r_eqs, r_nes, r_repr, List.map_cons, List.map_nil, List.replicate, List.cons_append, List.nil_append, Nat.reduceSub, a1, hz', ar_mulR _ _ hs, ar_mulL _ _ h2, ar_mod _ 2305843009213693951 (by decide), Option.map_some]
  rfl
/-! the cells -/
theorem cut_ints (zs : List Int) (lo hi : Option Int) : ∃ ys : List Int, cut (zs.map VV.int) lo hi = ys.map VV.int ∧ ys.length ≤ zs.length := by
  refine ⟨(zs.drop (ixB zs.length 0 lo)).take (ixB zs.length zs.length hi - ixB zs.length 0 lo), ?_, ?_⟩
  · unfold cut
    rw [List.length_map, List.map_take, List.map_drop]
  · rw [List.length_take, List.length_drop]
    omega
theorem cut_few (zs : List Int) (u : Nat) : cut (zs.map VV.int) none (some (u : Int)) = (zs.take (min u zs.length)).map VV.int := by
  unfold cut
  rw [List.length_map]
  unfold ixB
  dsimp only
  rw [if_neg (by omega)]
  simp
theorem cut_rest (zs : List Int) (u w : Nat) : cut (zs.map VV.int) (some (u : Int)) (some (w : Int)) = ((zs.drop (min u zs.length)).take (min w zs.length - min u zs.length)).map VV.int := by
  unfold cut
  rw [List.length_map, List.map_take, List.map_drop]
  unfold ixB
  dsimp only
  rw [if_neg (by omega), if_neg (by omega)]
  simp
theorem scr_sl (zs : List Int) (lo hi : Option Int) (h : zs.length ≤ 63) : ∃ ys : List Int, gSl false (.scr (zs.map .int)) lo hi s = .ok (.lst (ys.map .int)) s ∧ ys.length ≤ 63 := by
  obtain ⟨ys, e, l⟩ := cut_ints zs lo hi
  refine ⟨ys, ?_, by omega⟩
  show mkL false (cut (zs.map VV.int) lo hi) s = _
  rw [e]
  exact mkL_f (by rw [List.length_map]; exact sz_of (by omega))
theorem scr_few (zs : List Int) (u : Nat) (h : zs.length ≤ 63) : gSl false (.scr (zs.map .int)) none (some (u : Int)) s = .ok (.lst ((zs.take (min u zs.length)).map .int)) s := by
  show mkL false (cut (zs.map VV.int) none (some (u : Int))) s = _
  rw [cut_few]
  exact mkL_f (by rw [List.length_map, List.length_take]; exact sz_of (by omega))
theorem scr_rest (zs : List Int) (u w : Nat) (h : zs.length ≤ 63) : gSl false (.scr (zs.map .int)) (some (u : Int)) (some (w : Int)) s = .ok (.lst (((zs.drop (min u zs.length)).take (min w zs.length - min u zs.length)).map .int)) s := by
  show mkL false (cut (zs.map VV.int) (some (u : Int)) (some (w : Int))) s = _
  rw [cut_rest]
  exact mkL_f (by rw [List.length_map, List.length_take, List.length_drop]; exact sz_of (by omega))
theorem enum_at {xs : List VV} {i : Nat} {x : VV} (h : (enumV xs)[i]? = some x) : ∃ y, xs[i]? = some y ∧ x = .tup [.int i, y] := by
  unfold enumV at h
  rw [List.getElem?_mapIdx] at h
  obtain ⟨y, e, rfl⟩ := Option.map_eq_some_iff.mp h
  exact ⟨y, e, rfl⟩
theorem set_ints {cs : List Int} {i : Nat} {z : Int} : (cs.map VV.int).set i (.int z) = (cs.set i z).map VV.int := by rw [List.map_set]
theorem frz_ints {n lim : Nat} {S : Hs} (cs : List Int) : mapO (frz n lim S) (cs.map VV.int) = some (cs.map VV.int) := mapO_map fun i _ => frz_all n (.int i) rfl
theorem cells_e (P : Pg) (n : Nat) {zs : List Int} (hz : zs.length ≤ 63) {u : Nat} (hu : 0 < u ∧ u ≤ 63) : ∃ (cs : List Int) (g : Hs), 0 < cs.length ∧ cs.length ≤ u ∧
    exs (callF P n) fn__law_cells.body [some (.scr (zs.map .int)), some (.int u), none, none, none] s = .ok (.rt (.ref (s ++ g).length)) (s ++ g ++ [.lst (cs.map .int)]) := by
  -- the loop
  have loop : ∀ (S : Hs) (cs : List Int), 0 < cs.length → cs.length ≤ u → ∀ ws : List Int, ws.length ≤ 63 → (cs.length < u → ws = []) → ∃ (ds : List Int) (σ' : Sv), ds.length = cs.length ∧ σ'[2]? = some (some (.ref S.length)) ∧
      forL [] (stepF (callF P n) (.tup [(.var 3), (.var 4)]) [.sub (.var 2) (.bin false .mod (.var 3) (.var 1)) (.bin false .add (.idx (.var 2) (.bin false .mod (.var 3) (.var 1))) (.bin false .mul (.var 4) (.bin false .add (.var 3) (.lit (.int 2)))))])
        (enumV (ws.map .int)) [some (.scr (zs.map .int)), some (.int u), some (.ref S.length), none, none] (S ++ [.lst (cs.map .int)]) = .ok (.nx σ') (S ++ [.lst (ds.map .int)]) := by
    intro S cs c0 c1 ws lw hw
    have go := forL_ok (step := stepF (callF P n) (.tup [(.var 3), (.var 4)]) [.sub (.var 2) (.bin false .mod (.var 3) (.var 1)) (.bin false .add (.idx (.var 2) (.bin false .mod (.var 3) (.var 1))) (.bin false .mul (.var 4) (.bin false .add (.var 3) (.lit (.int 2)))))])
      (fun i σ T => ∃ ds o3 o4, ds.length = cs.length ∧ σ = [some (.scr (zs.map .int)), some (.int u), some (.ref S.length), o3, o4] ∧ T = S ++ [.lst (ds.map .int)]) (enumV (ws.map .int)) _ _ 0 ⟨cs, none, none, rfl, rfl, rfl⟩ fun i x σ T hx hI => by
        obtain ⟨ds, o3, o4, ld, rfl, rfl⟩ := hI
        obtain ⟨y, hy, rfl⟩ := enum_at hx
        obtain ⟨w, hw', rfl⟩ := map_at hy
        have li : i < ws.length := (List.getElem?_eq_some_iff.mp hw').1
        have cu : cs.length = u := by
          apply Classical.byContradiction
          intro q
          rw [hw (by omega)] at li
          exact absurd li (by simp)
        have kd : kid (S ++ [.lst (ds.map VV.int)]) S.length = some (ds.map .int) := kid_of (by rw [List.getElem?_append_right (Nat.le_refl _)]; simp)
        have mi : i % u < ds.length := by rw [ld, cu]; exact Nat.mod_lt _ hu.1
        have em : (i : Int) % (u : Int) = ((i % u : Nat) : Int) := (Int.natCast_emod i u).symm
        have a1 : atV (ds.map VV.int) ((i % u : Nat) : Int) = some (.int ds[i % u]) := at_nat (by rw [List.getElem?_map, List.getElem?_eq_getElem mi]; rfl)
        have st := set_of (n := i % u) (j := ((i % u : Nat) : Int)) (v := .int (ds[i % u] + w * ((i : Int) + 2))) kd (by rw [List.length_map]; exact ix_nat mi)
        rw [List.set_append_right _ _ (Nat.le_refl _)] at st
        simp only [Nat.sub_self, List.set_cons_zero] at st
        rw [set_ints] at st
        have hs : small ((i : Int) + 2) = true := small_of (by omega) (by omega)
        refine ⟨_, _, ?_, ds.set (i % u) (ds[i % u] + w * ((i : Int) + 2)), some (.int i), some (.int w), by rw [List.length_set]; exact ld, rfl, rfl⟩
        unfold stepF
        simp only [r_bind, r_assoc, r_lift, r_noX, r_var, r_lit, r_vvn, r_vvb, r_vvi, r_vvs, r_bin, r_neg, r_no, r_conj, r_disj, r_cmp, r_chain, r_ite, r_tup, r_lst, r_idx, r_sl, r_call, r_callk, r_bi, r_bm, r_comp, r_nil, r_cons, r_and1, r_and, r_or1, r_or, r_c0, r_c1, r_range, r_zip, r_enum, r_pl, r_s0, r_s, r_tnx, r_trt, r_tbk, r_tct, r_txc, r_cat, r_asg, r_sub, r_aug, r_expr, r_ret, r_ife, r_for, r_asgv, r_asgt, r_asgl, r_asg0, r_asgc, r_mapS, r_get0, r_gets, r_set0, r_sets, r_wip0, r_wip, r_trb, r_tri, r_ii, r_add, r_subi, r_gIdx, r_dcomp, r_scomp, r_sqt, r_sql, r_sqr, r_gCmp, r_lt, r_gt, r_le, r_ge, r_eqi, r_nei, r_isN, r_isI, r_inN, r_inI, r_neg', r_at0, r_at1, r_at2, r_ort, r_onx, r_lenl, r_lent, r_lenr, r_abs, r_intb, r_inti, r_max2, r_min2, r_tupt, r_tupl, r_tupr, r_listt, r_listl, r_listr, r_p6, r_p9, r_p11, r_p18, r_mkT0, r_mkF0, r_mkM0, r_mkT1, r_mkF1, r_mkM1, r_mkT2, r_mkF2, r_mkM2, r_mkT3, r_mkF3, r_mkM3, r_mkT4, r_mkF4, r_mkM4, r_mkT5, r_mkF5, r_mkM5, r_fld, r_gfld, r_isx, r_isxE, r_isxN, r_bcnt, r_catX, r_rai, r_tryk, r_tryN, r_tryR, r_tryX, r_oxc, r_bindX, sq_t, sq_f, q_seq, q_src, q_len, q_tup, q_list, q_asg, q_pur, q_srt, q_srl, optV_n, optV_s, r_isiI, r_isiT, r_isiL, isTy_ii, isTy_ib, isTy_il, isTy_it, isTy_tt, isTy_tl, isTy_ll, any_n, any_c, r_eqs, r_nes, r_repr, ar_mod _ _ (show (0 : Int) < u by omega), em, kd, a1, ar_mulR _ _ hs, st]
    obtain ⟨σ', T, e, ds, o3, o4, ld, rfl, rfl⟩ := go
    exact ⟨ds, _, ld, rfl, e⟩
  have e63 : (63 : Int) = ((63 : Nat) : Int) := rfl
  have b1 : bndOf (.lit .non) .non = some none := rfl
  have b2 : bndOf (.var 1) (.int u) = some (some (u : Int)) := rfl
  have b3 : bndOf (.lit (.int 63)) (.int 63) = some (some ((63 : Nat) : Int)) := rfl
  have en : ∀ (ws : List Int) (S : Hs), gEnum (.lst (ws.map .int)) S = .ok (enumV (ws.map .int), []) S := fun ws S => rfl
  have lr : ((zs.drop (min u zs.length)).take (min 63 zs.length - min u zs.length)).length ≤ 63 := by rw [List.length_take, List.length_drop]; omega
  have lw : ∀ {cs : List Int}, cs.length < u → zs.length ≤ cs.length → (zs.drop (min u zs.length)).take (min 63 zs.length - min u zs.length) = [] := fun {cs} h1 h2 => List.eq_nil_of_length_eq_zero (by rw [List.length_take, List.length_drop]; omega)
  generalize hw : (zs.drop (min u zs.length)).take (min 63 zs.length - min u zs.length) = ws at lr lw
  by_cases h0 : zs = []
  · subst h0
    obtain ⟨ds, σ', ld, hσ, e⟩ := loop (s ++ [.lst []]) [0] (by decide) (by simp; omega) ws lr fun h => lw h (by simp)
    refine ⟨ds, [.lst []], by rw [ld]; decide, by rw [ld]; simp; omega, ?_⟩
    have f1 := scr_few (s := s) [] u (by simp)
    have f2 := fun S : Hs => scr_rest (s := S) [] u 63 (by simp)
    rw [hw] at f2
    have k1 : kid (s ++ [Ob.lst []]) s.length = some [] := kid_of (by rw [List.getElem?_append_right (Nat.le_refl _)]; simp)
    have t1 : trV (s ++ [Ob.lst []]) (.ref s.length) = some false := by
      show (kid (s ++ [Ob.lst []]) s.length).map _ = _
      rw [k1]
      rfl
    have m1 : biV true .list [.lst []] s = .ok (.ref s.length) (s ++ [.lst []]) := mkL_t (by simp)
    simp only [List.length_nil, Nat.min_zero, List.take_zero, List.map_nil] at f1
    have hσ2 : σ'[2]? = some (some (.ref (s ++ [Ob.lst []]).length)) := hσ
    simp only [fn__law_cells, r_bind, r_assoc, r_lift, r_noX, r_var, r_lit, r_vvn, r_vvb, r_vvi, r_vvs, r_bin, r_neg, r_no, r_conj, r_disj, r_cmp, r_chain, r_ite, r_tup, r_lst, r_idx, r_sl, r_call, r_callk, r_bi, r_bm, r_comp, r_nil, r_cons, r_and1, r_and, r_or1, r_or, r_c0, r_c1, r_range, r_zip, r_enum, r_pl, r_s0, r_s, r_tnx, r_trt, r_tbk, r_tct, r_txc, r_cat, r_asg, r_sub, r_aug, r_expr, r_ret, r_ife, r_for, r_asgv, r_asgt, r_asgl, r_asg0, r_asgc, r_mapS, r_get0, r_gets, r_set0, r_sets, r_wip0, r_wip, r_trb, r_tri, r_ii, r_add, r_subi, r_gIdx, r_dcomp, r_scomp, r_sqt, r_sql, r_sqr, r_gCmp, r_lt, r_gt, r_le, r_ge, r_eqi, r_nei, r_isN, r_isI, r_inN, r_inI, r_neg', r_at0, r_at1, r_at2, r_ort, r_onx, r_lenl, r_lent, r_lenr, r_abs, r_intb, r_inti, r_max2, r_min2, r_tupt, r_tupl, r_tupr, r_listt, r_listl, r_listr, r_p6, r_p9, r_p11, r_p18, r_mkT0, r_mkF0, r_mkM0, r_mkT1, r_mkF1, r_mkM1, r_mkT2, r_mkF2, r_mkM2, r_mkT3, r_mkF3, r_mkM3, r_mkT4, r_mkF4, r_mkM4, r_mkT5, r_mkF5, r_mkM5, r_fld, r_gfld, r_isx, r_isxE, r_isxN, r_bcnt, r_catX, r_rai, r_tryk, r_tryN, r_tryR, r_tryX, r_oxc, r_bindX, sq_t, sq_f, q_seq, q_src, q_len, q_tup, q_list, q_asg, q_pur, q_srt, q_srl, optV_n, optV_s, r_isiI, r_isiT, r_isiL, isTy_ii, isTy_ib, isTy_il, isTy_it, isTy_tt, isTy_tl, isTy_ll, any_n, any_c, r_eqs, r_nes, r_repr, b1, b2, b3, List.map_nil, f1, m1, t1, if_false, Bool.false_eq_true, List.map_cons] at f2 e ⊢
    simp only [f2, en, r_bind, r_assoc, r_lift, r_noX, r_var, r_lit, r_vvn, r_vvb, r_vvi, r_vvs, r_bin, r_neg, r_no, r_conj, r_disj, r_cmp, r_chain, r_ite, r_tup, r_lst, r_idx, r_sl, r_call, r_callk, r_bi, r_bm, r_comp, r_nil, r_cons, r_and1, r_and, r_or1, r_or, r_c0, r_c1, r_range, r_zip, r_enum, r_pl, r_s0, r_s, r_tnx, r_trt, r_tbk, r_tct, r_txc, r_cat, r_asg, r_sub, r_aug, r_expr, r_ret, r_ife, r_for, r_asgv, r_asgt, r_asgl, r_asg0, r_asgc, r_mapS, r_get0, r_gets, r_set0, r_sets, r_wip0, r_wip, r_trb, r_tri, r_ii, r_add, r_subi, r_gIdx, r_dcomp, r_scomp, r_sqt, r_sql, r_sqr, r_gCmp, r_lt, r_gt, r_le, r_ge, r_eqi, r_nei, r_isN, r_isI, r_inN, r_inI, r_neg', r_at0, r_at1, r_at2, r_ort, r_onx, r_lenl, r_lent, r_lenr, r_abs, r_intb, r_inti, r_max2, r_min2, r_tupt, r_tupl, r_tupr, r_listt, r_listl, r_listr, r_p6, r_p9, r_p11, r_p18, r_mkT0, r_mkF0, r_mkM0, r_mkT1, r_mkF1, r_mkM1, r_mkT2, r_mkF2, r_mkM2, r_mkT3, r_mkF3, r_mkM3, r_mkT4, r_mkF4, r_mkM4, r_mkT5, r_mkF5, r_mkM5, r_fld, r_gfld, r_isx, r_isxE, r_isxN, r_bcnt, r_catX, r_rai, r_tryk, r_tryN, r_tryR, r_tryX, r_oxc, r_bindX, sq_t, sq_f, q_seq, q_src, q_len, q_tup, q_list, q_asg, q_pur, q_srt, q_srl, optV_n, optV_s, r_isiI, r_isiT, r_isiL, isTy_ii, isTy_ib, isTy_il, isTy_it, isTy_tt, isTy_tl, isTy_ll, any_n, any_c, r_eqs, r_nes, r_repr, e, hσ2]
  · have z1 : 0 < zs.length := List.length_pos_iff.mpr h0
    have l1 : (zs.take (min u zs.length)).length = min u zs.length := by rw [List.length_take]; omega
    obtain ⟨ds, σ', ld, hσ, e⟩ := loop s (zs.take (min u zs.length)) (by omega) (by omega) ws lr fun h => lw h (by omega)
    refine ⟨ds, [], by omega, by omega, ?_⟩
    have f1 := scr_few (s := s) zs u hz
    have f2 := fun S : Hs => scr_rest (s := S) zs u 63 hz
    rw [hw] at f2
    generalize zs.take (min u zs.length) = cs at *
    have k1 : kid (s ++ [Ob.lst (cs.map VV.int)]) s.length = some (cs.map .int) := kid_of (by rw [List.getElem?_append_right (Nat.le_refl _)]; simp)
    have t1 : trV (s ++ [Ob.lst (cs.map VV.int)]) (.ref s.length) = some true := by
      show (kid (s ++ [Ob.lst (cs.map VV.int)]) s.length).map _ = _
      rw [k1]
      cases cs with
      | nil => simp at l1; omega
      | cons c cs => rfl
    have m1 : biV true .list [.lst (cs.map VV.int)] s = .ok (.ref s.length) (s ++ [.lst (cs.map .int)]) := mkL_t (by rw [List.length_map]; exact sz_of (by omega))
    simp only [fn__law_cells, r_bind, r_assoc, r_lift, r_noX, r_var, r_lit, r_vvn, r_vvb, r_vvi, r_vvs, r_bin, r_neg, r_no, r_conj, r_disj, r_cmp, r_chain, r_ite, r_tup, r_lst, r_idx, r_sl, r_call, r_callk, r_bi, r_bm, r_comp, r_nil, r_cons, r_and1, r_and, r_or1, r_or, r_c0, r_c1, r_range, r_zip, r_enum, r_pl, r_s0, r_s, r_tnx, r_trt, r_tbk, r_tct, r_txc, r_cat, r_asg, r_sub, r_aug, r_expr, r_ret, r_ife, r_for, r_asgv, r_asgt, r_asgl, r_asg0, r_asgc, r_mapS, r_get0, r_gets, r_set0, r_sets, r_wip0, r_wip, r_trb, r_tri, r_ii, r_add, r_subi, r_gIdx, r_dcomp, r_scomp, r_sqt, r_sql, r_sqr, r_gCmp, r_lt, r_gt, r_le, r_ge, r_eqi, r_nei, r_isN, r_isI, r_inN, r_inI, r_neg', r_at0, r_at1, r_at2, r_ort, r_onx, r_lenl, r_lent, r_lenr, r_abs, r_intb, r_inti, r_max2, r_min2, r_tupt, r_tupl, r_tupr, r_listt, r_listl, r_listr, r_p6, r_p9, r_p11, r_p18, r_mkT0, r_mkF0, r_mkM0, r_mkT1, r_mkF1, r_mkM1, r_mkT2, r_mkF2, r_mkM2, r_mkT3, r_mkF3, r_mkM3, r_mkT4, r_mkF4, r_mkM4, r_mkT5, r_mkF5, r_mkM5, r_fld, r_gfld, r_isx, r_isxE, r_isxN, r_bcnt, r_catX, r_rai, r_tryk, r_tryN, r_tryR, r_tryX, r_oxc, r_bindX, sq_t, sq_f, q_seq, q_src, q_len, q_tup, q_list, q_asg, q_pur, q_srt, q_srl, optV_n, optV_s, r_isiI, r_isiT, r_isiL, isTy_ii, isTy_ib, isTy_il, isTy_it, isTy_tt, isTy_tl, isTy_ll, any_n, any_c, r_eqs, r_nes, r_repr, b1, b2, b3, f1, m1, t1, if_true, List.append_nil] at f2 e hσ ⊢
    simp only [f2, en, r_bind, r_assoc, r_lift, r_noX, r_var, r_lit, r_vvn, r_vvb, r_vvi, r_vvs, r_bin, r_neg, r_no, r_conj, r_disj, r_cmp, r_chain, r_ite, r_tup, r_lst, r_idx, r_sl, r_call, r_callk, r_bi, r_bm, r_comp, r_nil, r_cons, r_and1, r_and, r_or1, r_or, r_c0, r_c1, r_range, r_zip, r_enum, r_pl, r_s0, r_s, r_tnx, r_trt, r_tbk, r_tct, r_txc, r_cat, r_asg, r_sub, r_aug, r_expr, r_ret, r_ife, r_for, r_asgv, r_asgt, r_asgl, r_asg0, r_asgc, r_mapS, r_get0, r_gets, r_set0, r_sets, r_wip0, r_wip, r_trb, r_tri, r_ii, r_add, r_subi, r_gIdx, r_dcomp, r_scomp, r_sqt, r_sql, r_sqr, r_gCmp, r_lt, r_gt, r_le, r_ge, r_eqi, r_nei, r_isN, r_isI, r_inN, r_inI, r_neg', r_at0, r_at1, r_at2, r_ort, r_onx, r_lenl, r_lent, r_lenr, r_abs, r_intb, r_inti, r_max2, r_min2, r_tupt, r_tupl, r_tupr, r_listt, r_listl, r_listr, r_p6, r_p9, r_p11, r_p18, r_mkT0, r_mkF0, r_mkM0, r_mkT1, r_mkF1, r_mkM1, r_mkT2, r_mkF2, r_mkM2, r_mkT3, r_mkF3, r_mkM3, r_mkT4, r_mkF4, r_mkM4, r_mkT5, r_mkF5, r_mkM5, r_fld, r_gfld, r_isx, r_isxE, r_isxN, r_bcnt, r_catX, r_rai, r_tryk, r_tryN, r_tryR, r_tryX, r_oxc, r_bindX, sq_t, sq_f, q_seq, q_src, q_len, q_tup, q_list, q_asg, q_pur, q_srt, q_srl, optV_n, optV_s, r_isiI, r_isiT, r_isiL, isTy_ii, isTy_ib, isTy_il, isTy_it, isTy_tt, isTy_tl, isTy_ll, any_n, any_c, r_eqs, r_nes, r_repr, e, hσ]
theorem cells_ok (hP : P "_law_cells" = some fn__law_cells) (n : Nat) {zs : List Int} (hz : zs.length ≤ 63) {u : Nat} (hu : 0 < u ∧ u ≤ 63) : ∃ cs : List Int, 0 < cs.length ∧ cs.length ≤ u ∧
    callF P (n + 1) false "_law_cells" [.scr (zs.map .int), .int u] s = .ok (.lst (cs.map .int)) s := by
  obtain ⟨cs, g, h1, h2, e⟩ := cells_e (s := s) P n hz hu
  refine ⟨cs, h1, h2, ?_⟩
  rw [callF_run hP rfl]
  show (exs (callF P n) fn__law_cells.body [some (.scr (zs.map .int)), some (.int u), none, none, none] s).bind _ = _
  rw [e]
  show fin false s (.ref (s ++ g).length) (s ++ g ++ [.lst (cs.map .int)]) = _
  rw [List.append_assoc]
  refine fin_frz rfl ?_
  rw [← List.append_assoc]
  exact frz_ref (by simp) (by rw [List.getElem?_append_right (Nat.le_refl _)]; simp) (frz_ints cs)
end
end Tw
set_option Elab.async false
set_option linter.all false
set_option autoImplicit false
set_option maxRecDepth 100000
/-! LibDraw: lists of draws; data of fleets and marks; leaving a call of a box. -/
namespace Tw
open PySem (PyData Str)
section
variable {P : Pg} {F : Sea} {s ex g : Hs} {b c : Bool} {m : Mk} {v : VV} {k n : Nat} {bx bx' : Bx}
/-- n draws -/
theorem draws {step : VV → Hs → Out (Option VV)} {φ : Nat → Int → Prop} (h : ∀ (i : Nat) (b : Bx), i < n → ∃ r b', φ i r ∧ step (.int i) (St s k b ex) = .ok (some (.int r)) (St s k b' ex)) (bx : Bx) :
    ∃ (m : Mk) (b' : Bx), (∀ i, i < n → φ i (m i)) ∧ compL [] step ((List.range n).map fun (i : Nat) => VV.int i) (St s k bx ex) = .ok (mks n m) (St s k b' ex) := by
  obtain ⟨rs, S', e, m, b', h1, h2, rfl⟩ := compL_ok (step := step) (fun i acc S => ∃ (m : Mk) (b : Bx), (∀ j, j < i → j < n → φ j (m j)) ∧ acc = mks i m ∧ S = St s k b ex) ((List.range n).map fun (i : Nat) => VV.int i) [] (St s k bx ex) 0 ⟨fun _ => 0, bx, fun j h => by omega, rfl, rfl⟩ fun i x acc S hx hI => by
    obtain ⟨hi, rfl⟩ := range_at hx
    obtain ⟨m, b, q1, rfl, rfl⟩ := hI
    obtain ⟨r, b', q2, q3⟩ := h i b hi
    refine ⟨_, _, q3, fun j => if j = i then r else m j, b', fun j h1 h2 => ?_, ?_, rfl⟩
    · dsimp only
      split
      · rename_i e
        subst e
        exact q2
      · exact q1 j (by omega) h2
    · rw [Nat.zero_add]
      show mks i m ++ [VV.int r] = _
      unfold mks
      rw [List.range_succ, List.map_append]
      congr 1
      · apply List.map_congr_left
        intro j hj
        have := List.mem_range.mp hj
        dsimp only
        rw [if_neg (by omega)]
      · simp
  rw [List.length_map, List.length_range, Nat.zero_add, List.nil_append] at h2
  subst h2
  rw [List.length_map, List.length_range] at h1
  exact ⟨m, b', fun i hi => h1 i (by omega) hi, e⟩
/-- a call that drew and made things -/
theorem fin_boxes {v : VV} (h : k < s.length) (hv : pur v = true) (g : Hs) : fin false (St s k bx ex) v (St s k bx' (ex ++ g)) = .ok v (St s k bx' ex) := by
  unfold fin
  rw [if_neg (by decide), if_pos (St.stays h g), if_pos hv, St.take]
/-- data of fleets and marks -/
def ropesD (b : Bool) (l : List Rope) : PyData := sqD b (l.map (ropeD true))
theorem toD_ropes (n : Nat) (c b : Bool) (l : List Rope) : toD (n + 2) s (sq c (l.map (ropeV b))) = some (sqD c (l.map (ropeD b))) := toD_sq (mapO_to fun r _ => toD_rope n r)
theorem toD_marks (n : Nat) (c : Bool) (k : Nat) (m : Mk) : toD (n + 1) s (mkV c k m) = some (sqD c ((List.range k).map fun i => .int (m i))) := toD_sq (mapO_to fun i _ => toD_int n (m i))
theorem toD_sea (n : Nat) (b : Bool) (F : Sea) : toD (n + 3) s (seaV b F) = some (sqD b [.int F.n, sqD b (F.ropes.map (ropeD b))]) := toD_sq (by
  unfold mapO
  rw [toD_int]
  unfold mapO
  rw [toD_ropes]
  rfl)
theorem wgt_rope (r : Rope) (h1 : r.1 < 64) (h2 : r.2.1 < 64) (h3 : r.2.2.natAbs < 10 ^ 30) : wgt (ropeD b r) = 4 := by
  unfold ropeD
  rw [wgt_sq]
  unfold wgt.wgts
  rw [wgt_int (by omega)]
  unfold wgt.wgts
  rw [wgt_int (by omega)]
  unfold wgt.wgts
  rw [wgt_int h3]
  rfl
theorem toD_ref {k : Nat} {xs : List VV} {ds : List PyData} (h : kid s k = some xs) (e : mapO (toD n s) xs = some ds) : toD (n + 1) s (.ref k) = some (.list ds) := by
  show (match kid s k with
    | some xs => (mapO (toD n s) xs).map PyData.list
    | none => none) = _
  rw [h]
  dsimp only
  rw [e]
  rfl
/-- one value as data, then the rest -/
theorem mapO_cons {α β : Type} {f : α → Option β} {x : α} {xs : List α} {y : β} {ys : List β} (h : f x = some y) (t : mapO f xs = some ys) : mapO f (x :: xs) = some (y :: ys) := by
  unfold mapO
  rw [h, t]
theorem mapO_nil {α β : Type} {f : α → Option β} : mapO f [] = some [] := rfl
theorem lay_all {n : Nat} {s : Hs} (ih : ∀ v d, toD n s v = some d → d.canLay0 = true) : ∀ {xs : List VV} {ds : List PyData}, mapO (toD n s) xs = some ds → PyData.canLayAll0 ds = true
  | [], ds, e => by cases e; rfl
  | x :: xs, ds, e => by
    unfold mapO at e
    split at e
    · rename_i d ds' e1 e2
      cases e
      simp only [PyData.canLayAll0, ih _ _ e1, lay_all ih e2, Bool.and_self]
    · cases e
theorem toD_lay : ∀ (n : Nat) (v : VV) (d : PyData), toD n s v = some d → d.canLay0 = true := by
  have strz : ∀ (y : Str) (d : PyData), (if PyData.strOk y then some (PyData.str y) else none) = some d → d.canLay0 = true := fun y d e => by
    split at e
    · rename_i h
      cases e
      simpa only [PyData.canLay0] using h
    · cases e
  intro n
  induction n with
  | zero =>
    intro v d e
    cases v with
    | non => cases e; rfl
    | bl b => cases e; rfl
    | int i => cases e; rfl
    | str y => exact strz y d e
    | _ => cases e
  | succ n ih =>
    intro v d e
    cases v with
    | non => cases e; rfl
    | bl b => cases e; rfl
    | int i => cases e; rfl
    | str y => exact strz y d e
    | tup xs =>
      obtain ⟨ds, e1, rfl⟩ := Option.map_eq_some_iff.mp e
      simpa only [PyData.canLay0] using lay_all ih e1
    | lst xs =>
      obtain ⟨ds, e1, rfl⟩ := Option.map_eq_some_iff.mp e
      simpa only [PyData.canLay0] using lay_all ih e1
    | ref k =>
      have e' : (match kid s k with
        | some xs => (mapO (toD n s) xs).map PyData.list
        | none => none) = some d := e
      split at e'
      · obtain ⟨ds, e1, rfl⟩ := Option.map_eq_some_iff.mp e'
        simpa only [PyData.canLay0] using lay_all ih e1
      · cases e'
    | _ => cases e
theorem eq_data {x y : VV} {d : PyData} (h1 : toD dpt s x = some d) (h2 : toD dpt s y = some d) (hx : ∀ z, x ≠ .str z) : cmpV s .eq x y = some true := by
  have e : eqX s x y = eqV s x y := by
    unfold eqX
    split
    · rename_i a b
      exact absurd rfl (hx a)
    · rfl
  show eqX s x y = _
  rw [e]
  unfold eqV
  rw [h1, h2]
  exact congrArg some (PySem.SeqAt.eqv_refl d (toD_lay dpt x d h1))
theorem ne_data {x y : VV} {d : PyData} (h1 : toD dpt s x = some d) (h2 : toD dpt s y = some d) (hx : ∀ z, x ≠ .str z) : cmpV s .ne x y = some false := by
  have := eq_data h1 h2 hx
  show (eqX s x y).map _ = _
  rw [show eqX s x y = some true from this]
  rfl
end
end Tw
set_option Elab.async false
set_option linter.all false
set_option autoImplicit false
set_option maxRecDepth 100000
/-! LibLaw: a law's own def, by its three shapes. -/
namespace Tw
section
variable {P : Pg}
theorem exs_app {cl : Cl} : ∀ (a b : List Stm) (σ : Sv) (s : Hs), exs cl (a ++ b) σ s = (exs cl a σ s).bind (thenS cl b)
  | [], b, σ, s => rfl
  | st :: a, b, σ, s => by
    rw [List.cons_append, r_s, r_s, Out.bind_assoc]
    congr 1
    funext f s'
    cases f with
    | nx σ' => exact exs_app a b σ' s'
    | _ => rfl
theorem r_addT (d : Bool) (xs ys : List VV) (S : Hs) : binG d .add (.tup xs) (.tup ys) S = mkT (xs ++ ys) S := id rfl
theorem cut_lo (n i : Nat) (hi : i ≤ n) (f : Nat → VV) : cut ((List.range n).map f) none (some (i : Int)) = (List.range i).map f := by
  unfold cut ixB
  dsimp only
  rw [if_neg (by omega)]
  simp only [List.length_map, List.length_range, List.drop_zero, Nat.sub_zero, Int.toNat_natCast, Nat.min_eq_left hi]
  rw [← List.map_take, List.take_range, Nat.min_eq_left hi]
theorem cut_hi (n i : Nat) (hi : i < n) (f : Nat → VV) : cut ((List.range n).map f) (some ((i : Int) + 1)) none = ((List.range n).drop (i + 1)).map f := by
  unfold cut ixB
  dsimp only
  rw [if_neg (by omega), show ((i : Int) + 1).toNat = i + 1 by omega]
  simp only [List.length_map, List.length_range, Nat.min_eq_left (show i + 1 ≤ n by omega)]
  rw [← List.map_drop, List.take_of_length_le (by simp)]
/-- so many cells, each so many turns -/
def lawT (u t : Int) : Fn := ⟨1, 5, [.asg (.var 1) (.call false "_law_cells" [(.var 0), (.lit (.int u))]), .forr (.var 2) (.range [(.bi false .len [(.var 1)])]) [.asg (.var 3) (.call true "_law_box" [(.var 1), (.var 2)]), .ife (.no (.bi false .all [(.comp false (.call false "_law_right" [(.var 3)]) (.var 4) (.range [(.lit (.int t))]) [] [4])])) [.ret (.lit (.bl false))] []], .ret (.lit (.bl true))]⟩
/-- what a part of the law is asked: it draws, and tells True -/
def Right (P : Pg) (N : Nat) : Prop := ∀ (s : Hs) (k : Nat) (b : Bx), k < s.length → ∃ b' : Bx, callF P N false "_law_right" [.ref k] (St s k b []) = .ok (.bl true) (St s k b' [])
theorem all_true {l : List Nat} {s : Hs} {d : Bool} : biV d .all [.lst (l.map fun _ => VV.bl true)] s = .ok (.bl true) s := by
  have := r_alll (l := l) (p := fun _ => true) (s := s) d
  rw [this]
  congr 2
  exact List.all_eq_true.mpr fun _ _ => rfl
theorem lawT_ok (hC : P "_law_cells" = some fn__law_cells) (hB : P "_law_box" = some fn__law_box) {u t : Nat} (hL : P "law" = some (lawT u t)) (hu : 0 < u ∧ u ≤ 63) (ht : t ≤ 63) {N : Nat} (hR : Right P (N + 1)) (zs : List Int) (hz : zs.length ≤ 63) : ∃ S, callF P (N + 2) false "law" [.scr (zs.map .int)] [] = .ok (.bl true) S := by
  obtain ⟨cs, c1, c2, e1⟩ := cells_ok (s := []) hC N hz hu
  rw [callF_run hL rfl]
  have rg := rng_nat (s := []) (n := cs.length) (by omega)
  have ln : (((cs.map VV.int).length : Nat) : Int) = ((cs.length : Nat) : Int) := by rw [List.length_map]
  obtain ⟨σ', S', e2, g, o2, o3, o4, rfl, rfl⟩ := forL_ok (step := stepF (callF P (N + 1)) (.var 2) [.asg (.var 3) (.call true "_law_box" [(.var 1), (.var 2)]), .ife (.no (.bi false .all [(.comp false (.call false "_law_right" [(.var 3)]) (.var 4) (.range [(.lit (.int t))]) [] [4])])) [.ret (.lit (.bl false))] []])
    (fun i σ S => ∃ (g : Hs) (o2 o3 o4 : Option VV), σ = [some (.scr (zs.map .int)), some (.lst (cs.map .int)), o2, o3, o4] ∧ S = g) ((List.range cs.length).map fun (i : Nat) => VV.int i) [some (.scr (zs.map .int)), some (.lst (cs.map .int)), none, none, none] [] 0 ⟨_, none, none, none, rfl, rfl⟩ fun i x σ S hx hI => by
      obtain ⟨hi, rfl⟩ := range_at hx
      obtain ⟨g, o2, o3, o4, rfl, rfl⟩ := hI
      obtain ⟨b, e3⟩ := box_new (s := S) hB N hi (by omega)
      have st : S ++ [b.ob] = St (S ++ [b.ob]) S.length b [] := by
        unfold St
        rw [List.set_append_right _ _ (Nat.le_refl _)]
        simp
      have cc : ∃ b' : Bx, compL [] (stepC (callF P (N + 1)) (.call false "_law_right" [(.var 3)]) (.var 4) [] [4] [some (.scr (zs.map .int)), some (.lst (cs.map .int)), some (.int i), some (.ref S.length), o4]) ((List.range t).map fun (i : Nat) => VV.int i) (S ++ [b.ob]) = .ok ((List.range t).map fun _ => VV.bl true) (St (S ++ [b.ob]) S.length b' []) := by
        obtain ⟨rs, T, e, b', h3, rfl⟩ := compL_ok (step := stepC (callF P (N + 1)) (.call false "_law_right" [(.var 3)]) (.var 4) [] [4] [some (.scr (zs.map .int)), some (.lst (cs.map .int)), some (.int i), some (.ref S.length), o4]) (fun i acc T => ∃ b', acc = (List.range i).map (fun _ => VV.bl true) ∧ T = St (S ++ [b.ob]) S.length b' []) ((List.range t).map fun (i : Nat) => VV.int i) [] (S ++ [b.ob]) 0 ⟨b, rfl, st⟩ fun i x acc T hx hI => by
          obtain ⟨b', rfl, rfl⟩ := hI
          obtain ⟨hj, rfl⟩ := range_at hx
          obtain ⟨b'', e⟩ := hR (S ++ [b.ob]) S.length b' (by simp)
          refine ⟨some (.bl true), _, ?_, b'', ?_, rfl⟩
          · simp only [stepC, r_bind, r_assoc, r_lift, r_noX, r_var, r_lit, r_vvn, r_vvb, r_vvi, r_vvs, r_bin, r_neg, r_no, r_conj, r_disj, r_cmp, r_chain, r_ite, r_tup, r_lst, r_idx, r_sl, r_call, r_callk, r_bi, r_bm, r_comp, r_nil, r_cons, r_and1, r_and, r_or1, r_or, r_c0, r_c1, r_range, r_zip, r_enum, r_pl, r_s0, r_s, r_tnx, r_trt, r_tbk, r_tct, r_txc, r_cat, r_asg, r_sub, r_aug, r_expr, r_ret, r_ife, r_for, r_asgv, r_asgt, r_asgl, r_asg0, r_asgc, r_mapS, r_get0, r_gets, r_set0, r_sets, r_wip0, r_wip, r_trb, r_tri, r_ii, r_add, r_subi, r_gIdx, r_dcomp, r_scomp, r_sqt, r_sql, r_sqr, r_gCmp, r_lt, r_gt, r_le, r_ge, r_eqi, r_nei, r_isN, r_isI, r_inN, r_inI, r_neg', r_at0, r_at1, r_at2, r_ort, r_onx, r_lenl, r_lent, r_lenr, r_abs, r_intb, r_inti, r_max2, r_min2, r_tupt, r_tupl, r_tupr, r_listt, r_listl, r_listr, r_p6, r_p9, r_p11, r_p18, r_mkT0, r_mkF0, r_mkM0, r_mkT1, r_mkF1, r_mkM1, r_mkT2, r_mkF2, r_mkM2, r_mkT3, r_mkF3, r_mkM3, r_mkT4, r_mkF4, r_mkM4, r_mkT5, r_mkF5, r_mkM5, r_fld, r_gfld, r_isx, r_isxE, r_isxN, r_bcnt, r_catX, r_rai, r_tryk, r_tryN, r_tryR, r_tryX, r_oxc, r_bindX, sq_t, sq_f, q_seq, q_src, q_len, q_tup, q_list, q_asg, q_pur, q_srt, q_srl, optV_n, optV_s, r_isiI, r_isiT, r_isiL, isTy_ii, isTy_ib, isTy_il, isTy_it, isTy_tt, isTy_tl, isTy_ll, any_n, any_c, r_eqs, r_nes, r_repr, r_addT, e, if_true]
          · rw [Nat.zero_add, List.range_succ, List.map_append]
            rfl
        rw [List.nil_append, List.length_map, List.length_range, Nat.zero_add] at h3
        rw [h3] at e
        exact ⟨b', e⟩
      obtain ⟨b', e4⟩ := cc
      have rg := rng_nat (s := S ++ [b.ob]) (n := t) (by omega)
      have m1 : ∀ T, mkL false ((List.range t).map fun _ => VV.bl true) T = .ok (.lst ((List.range t).map fun _ => VV.bl true)) T := fun T => mkL_f (sz_of (by simp; omega))
      refine ⟨_, St (S ++ [b.ob]) S.length b' [], ?_, _, some (.int i), some (.ref S.length), o4, rfl, rfl⟩
      rw [stepF_v]
      simp only [r_bind, r_assoc, r_lift, r_noX, r_var, r_lit, r_vvn, r_vvb, r_vvi, r_vvs, r_bin, r_neg, r_no, r_conj, r_disj, r_cmp, r_chain, r_ite, r_tup, r_lst, r_idx, r_sl, r_call, r_callk, r_bi, r_bm, r_comp, r_nil, r_cons, r_and1, r_and, r_or1, r_or, r_c0, r_c1, r_range, r_zip, r_enum, r_pl, r_s0, r_s, r_tnx, r_trt, r_tbk, r_tct, r_txc, r_cat, r_asg, r_sub, r_aug, r_expr, r_ret, r_ife, r_for, r_asgv, r_asgt, r_asgl, r_asg0, r_asgc, r_mapS, r_get0, r_gets, r_set0, r_sets, r_wip0, r_wip, r_trb, r_tri, r_ii, r_add, r_subi, r_gIdx, r_dcomp, r_scomp, r_sqt, r_sql, r_sqr, r_gCmp, r_lt, r_gt, r_le, r_ge, r_eqi, r_nei, r_isN, r_isI, r_inN, r_inI, r_neg', r_at0, r_at1, r_at2, r_ort, r_onx, r_lenl, r_lent, r_lenr, r_abs, r_intb, r_inti, r_max2, r_min2, r_tupt, r_tupl, r_tupr, r_listt, r_listl, r_listr, r_p6, r_p9, r_p11, r_p18, r_mkT0, r_mkF0, r_mkM0, r_mkT1, r_mkF1, r_mkM1, r_mkT2, r_mkF2, r_mkM2, r_mkT3, r_mkF3, r_mkM3, r_mkT4, r_mkF4, r_mkM4, r_mkT5, r_mkF5, r_mkM5, r_fld, r_gfld, r_isx, r_isxE, r_isxN, r_bcnt, r_catX, r_rai, r_tryk, r_tryN, r_tryR, r_tryX, r_oxc, r_bindX, sq_t, sq_f, q_seq, q_src, q_len, q_tup, q_list, q_asg, q_pur, q_srt, q_srl, optV_n, optV_s, r_isiI, r_isiT, r_isiL, isTy_ii, isTy_ib, isTy_il, isTy_it, isTy_tt, isTy_tl, isTy_ll, any_n, any_c, r_eqs, r_nes, r_repr, r_addT, e3, rg, e4, m1, all_true, Bool.not_true, if_false, Bool.false_eq_true]
  refine ⟨[], ?_⟩
  simp only [lawT, r_bind, r_assoc, r_lift, r_noX, r_var, r_lit, r_vvn, r_vvb, r_vvi, r_vvs, r_bin, r_neg, r_no, r_conj, r_disj, r_cmp, r_chain, r_ite, r_tup, r_lst, r_idx, r_sl, r_call, r_callk, r_bi, r_bm, r_comp, r_nil, r_cons, r_and1, r_and, r_or1, r_or, r_c0, r_c1, r_range, r_zip, r_enum, r_pl, r_s0, r_s, r_tnx, r_trt, r_tbk, r_tct, r_txc, r_cat, r_asg, r_sub, r_aug, r_expr, r_ret, r_ife, r_for, r_asgv, r_asgt, r_asgl, r_asg0, r_asgc, r_mapS, r_get0, r_gets, r_set0, r_sets, r_wip0, r_wip, r_trb, r_tri, r_ii, r_add, r_subi, r_gIdx, r_dcomp, r_scomp, r_sqt, r_sql, r_sqr, r_gCmp, r_lt, r_gt, r_le, r_ge, r_eqi, r_nei, r_isN, r_isI, r_inN, r_inI, r_neg', r_at0, r_at1, r_at2, r_ort, r_onx, r_lenl, r_lent, r_lenr, r_abs, r_intb, r_inti, r_max2, r_min2, r_tupt, r_tupl, r_tupr, r_listt, r_listl, r_listr, r_p6, r_p9, r_p11, r_p18, r_mkT0, r_mkF0, r_mkM0, r_mkT1, r_mkF1, r_mkM1, r_mkT2, r_mkF2, r_mkM2, r_mkT3, r_mkF3, r_mkM3, r_mkT4, r_mkF4, r_mkM4, r_mkT5, r_mkF5, r_mkM5, r_fld, r_gfld, r_isx, r_isxE, r_isxN, r_bcnt, r_catX, r_rai, r_tryk, r_tryN, r_tryR, r_tryX, r_oxc, r_bindX, sq_t, sq_f, q_seq, q_src, q_len, q_tup, q_list, q_asg, q_pur, q_srt, q_srl, optV_n, optV_s, r_isiI, r_isiT, r_isiL, isTy_ii, isTy_ib, isTy_il, isTy_it, isTy_tt, isTy_tl, isTy_ll, any_n, any_c, r_eqs, r_nes, r_repr, r_addT, List.map_cons, List.map_nil, List.replicate, List.cons_append, List.nil_append, Nat.reduceSub, e1, ln, rg, e2]
  exact fin_drop (s := []) rfl
end
end Tw
set_option Elab.async false
set_option linter.all false
set_option autoImplicit false
set_option maxRecDepth 100000
/-! LibSlack: the program's slacks, less, leads. -/
namespace Tw
def fn_slacks : Fn := ⟨1, 4, [.ret (.dcomp false true (.tup [(.var 1), (.var 2)]) (.var 3) (.tup [(.var 1), (.var 2), (.var 3)]) (.pl (.idx (.var 0) (.lit (.int 1)))) [] [1, 2, 3])]⟩
def fn_less : Fn := ⟨2, 2, [.ife (.disj [(.cmp .is_ (.var 0) (.lit .non)), (.cmp .is_ (.var 1) (.lit .non))]) [.ret (.ite (.cmp .is_ (.var 0) (.lit .non)) (.var 1) (.var 0))] [], .ret (.bi false .min2 [(.var 0), (.var 1)])]⟩
def fn_leads : Fn := ⟨1, 9, [.asg (.tup [(.var 1), (.var 2)]) (.tup [(.call false "slacks" [(.var 0)]), (.idx (.var 0) (.lit (.int 0)))]), .asg (.var 5) (.comp true (.comp true (.ite (.cmp .eq (.var 4) (.var 3)) (.lit (.int 0)) (.bm .get (.var 1) [(.tup [(.var 4), (.var 3)]), (.lit .non)])) (.var 3) (.range [(.var 2)]) [] [3]) (.var 4) (.range [(.var 2)]) [] [4]), .forr (.var 6) (.range [(.var 2)]) [.forr (.var 7) (.pl (.var 5)) [.forr (.tup [(.var 3), (.var 8)]) (.enum (.idx (.var 5) (.var 6))) [.ife (.conj [(.cmp .isnot (.idx (.var 7) (.var 6)) (.lit .non)), (.cmp .isnot (.var 8) (.lit .non))]) [.sub (.var 7) (.var 3) (.call false "less" [(.idx (.var 7) (.var 3)), (.bin false .add (.idx (.var 7) (.var 6)) (.var 8))])] []]]], .ret (.var 5)]⟩
/-! ### dicts -/
theorem lookD_put {kvs : List (VV × VV)} {k v : VV} {d e : DKey} (hk : keyD k = some d) : lookD (putD kvs k d v) e = if e = d then some v else lookD kvs e := by
  unfold putD
  cases h : (lookD kvs d).isSome with
  | true =>
    rw [if_pos rfl]
    have : ∀ l : List (VV × VV), (lookD l d).isSome = true → lookD (l.map fun p => if keyD p.1 = some d then (p.1, v) else p) e = if e = d then some v else lookD l e := by
      intro l
      induction l with
      | nil => intro h; cases h
      | cons p l ih =>
        intro h
        unfold lookD at ih h ⊢
        rw [List.map_cons, List.find?_cons, List.find?_cons]
        rw [List.find?_cons] at h
        by_cases hp : keyD p.1 = some d
        · simp only [hp, if_true]
          by_cases he : e = d
          · subst he
            simp only [decide_true, if_true, Option.map_some]
          · have hne : ¬ (some d = some e) := fun z => he (Option.some.inj z).symm
            simp only [hne, decide_false, if_neg he]
            by_cases hl : (lookD l d).isSome = true
            · have := ih hl
              rw [if_neg he] at this
              exact this
            · clear ih h
              have : ∀ l : List (VV × VV), ¬ (lookD l d).isSome = true → (l.map fun p => if keyD p.1 = some d then (p.1, v) else p) = l := by
                intro l
                induction l with
                | nil => intro _; rfl
                | cons q l ih =>
                  intro h
                  unfold lookD at h ih
                  rw [List.find?_cons] at h
                  by_cases hq : keyD q.1 = some d
                  · simp [hq] at h
                  · simp only [hq, decide_false] at h
                    rw [List.map_cons, if_neg hq, ih h]
              rw [this l hl]
        · have hp' : (if keyD p.1 = some d then (p.1, v) else p) = p := if_neg hp
          rw [hp']
          simp only [hp, decide_false] at h
          have ih := ih h
          by_cases hpe : keyD p.1 = some e
          · simp only [hpe, decide_true, Option.map_some]
            have he : e ≠ d := fun z => hp (by rw [hpe, z])
            rw [if_neg he]
          · simp only [hpe, decide_false]
            exact ih
    exact this kvs h
  | false =>
    rw [if_neg (by decide)]
    have hn : lookD kvs d = none := by
      cases q : lookD kvs d with
      | none => rfl
      | some _ => rw [q] at h; cases h
    unfold lookD at hn ⊢
    rw [List.find?_append]
    by_cases he : e = d
    · subst he
      rw [if_pos rfl]
      have : kvs.find? (fun p => decide (keyD p.1 = some e)) = none := by
        cases q : kvs.find? (fun p => decide (keyD p.1 = some e)) with
        | none => rfl
        | some _ => rw [q] at hn; cases hn
      rw [this]
      simp [hk]
    · rw [if_neg he]
      have hne : ¬ (keyD k = some e) := fun z => he (by rw [hk] at z; exact (Option.some.inj z).symm)
      rw [List.find?_cons]
      simp only [hne, decide_false, List.find?_nil, Option.or_none]
theorem putD_len {kvs : List (VV × VV)} {k v : VV} {d : DKey} : (putD kvs k d v).length ≤ kvs.length + 1 := by
  unfold putD
  split
  · rw [List.length_map]; omega
  · rw [List.length_append]; simp
/-- many pairs put in -/
theorem putAll_ok {α : Type} {t : Bool} {k v : α → VV} {d : α → DKey} : ∀ (l : List α) (acc : List (VV × VV)), (∀ a ∈ l, keyD (k a) = some (d a) ∧ (d a).tu = t) → acc.length + l.length ≤ szL →
    putAll t (l.map fun a => .tup [k a, v a]) acc = some (l.foldl (fun acc a => putD acc (k a) (d a) (v a)) acc)
  | [], acc, _, _ => rfl
  | a :: l, acc, h, hl => by
    rw [List.map_cons, List.foldl_cons]
    obtain ⟨h1, h2⟩ := h a List.mem_cons_self
    rw [List.length_cons] at hl
    unfold putAll
    rw [h1]
    dsimp only
    rw [if_pos ⟨h2, by omega⟩]
    refine putAll_ok l _ (fun b hb => h b (List.mem_cons_of_mem _ hb)) ?_
    have := putD_len (kvs := acc) (k := k a) (v := v a) (d := d a)
    omega
/-- a line's two boats as a key -/
def pairV (r : Rope) : VV := .tup [.int r.1, .int r.2.1]
def pairK (r : Rope) : DKey := .t [some (r.1 : Int), some (r.2.1 : Int)]
theorem pair_key (r : Rope) : keyD (pairV r) = some (pairK r) := rfl
def slD (F : Sea) : List (VV × VV) := F.ropes.foldl (fun acc r => putD acc (pairV r) (pairK r) (.int r.2.2)) []
theorem slD_look' (a b : Nat) : ∀ (l : List Rope) (acc : List (VV × VV)), (∀ r ∈ l, ∀ q ∈ l, r.1 = q.1 → r.2.1 = q.2.1 → r = q) → lookD acc (.t [some (a : Int), some (b : Int)]) = none ∨ (∀ r ∈ l, ¬ (r.1 = a ∧ r.2.1 = b)) →
    lookD (l.foldl (fun acc r => putD acc (pairV r) (pairK r) (.int r.2.2)) acc) (.t [some (a : Int), some (b : Int)]) = match l.find? fun r => r.1 == a && r.2.1 == b with
      | some r => some (.int r.2.2)
      | none => lookD acc (.t [some (a : Int), some (b : Int)])
  | [], acc, _, _ => rfl
  | r :: l, acc, hu, hn => by
    rw [List.foldl_cons, List.find?_cons]
    have hu' : ∀ r ∈ l, ∀ q ∈ l, r.1 = q.1 → r.2.1 = q.2.1 → r = q := fun x hx y hy => hu x (List.mem_cons_of_mem _ hx) y (List.mem_cons_of_mem _ hy)
    have lp := lookD_put (kvs := acc) (k := pairV r) (v := .int r.2.2) (d := pairK r) (e := .t [some (a : Int), some (b : Int)]) (pair_key r)
    by_cases h : r.1 = a ∧ r.2.1 = b
    · have hb : (r.1 == a && r.2.1 == b) = true := by simp [h]
      rw [hb]
      dsimp only
      have e1 : (DKey.t [some (a : Int), some (b : Int)]) = pairK r := by unfold pairK; rw [h.1, h.2]
      rw [if_pos e1] at lp
      -- behind it only the same one
      have : ∀ (l : List Rope) (acc : List (VV × VV)), (∀ q ∈ l, q.1 = a → q.2.1 = b → q = r) → lookD acc (.t [some (a : Int), some (b : Int)]) = some (.int r.2.2) → lookD (l.foldl (fun acc r => putD acc (pairV r) (pairK r) (.int r.2.2)) acc) (.t [some (a : Int), some (b : Int)]) = some (.int r.2.2) := by
        intro l
        induction l with
        | nil => intro acc _ h; exact h
        | cons q l ih =>
          intro acc hq ha
          rw [List.foldl_cons]
          refine ih _ (fun x hx => hq x (List.mem_cons_of_mem _ hx)) ?_
          rw [lookD_put (pair_key q)]
          split
          · rename_i e
            unfold pairK at e
            injection e with e
            injection e with e3 e4
            injection e4 with e4 _
            injection e3 with e3
            injection e4 with e4
            rw [hq q List.mem_cons_self (by omega) (by omega)]
          · exact ha
      exact this l _ (fun q hq h1 h2 => (hu r List.mem_cons_self q (List.mem_cons_of_mem _ hq) (by omega) (by omega)).symm) lp
    · have hb : (r.1 == a && r.2.1 == b) = false := by
        rw [Bool.eq_false_iff]
        intro z
        simp at z
        exact h z
      rw [hb]
      dsimp only
      have e1 : ¬ (DKey.t [some (a : Int), some (b : Int)]) = pairK r := fun e => by
        unfold pairK at e
        injection e with e
        injection e with e3 e4
        injection e4 with e4 _
        injection e3 with e3
        injection e4 with e4
        exact h ⟨by omega, by omega⟩
      rw [if_neg e1] at lp
      have ih := slD_look' a b l (putD acc (pairV r) (pairK r) (.int r.2.2)) hu' (by
        rw [lp]
        rcases hn with hn | hn
        · exact .inl hn
        · exact .inr fun q hq => hn q (List.mem_cons_of_mem _ hq))
      rw [ih, lp]
theorem slD_look {F : Sea} (ok : F.Ok) (a b : Nat) : lookD (slD F) (.t [some (a : Int), some (b : Int)]) = (F.ropes.find? fun r => r.1 == a && r.2.1 == b).map fun r => .int r.2.2 := by
  have := slD_look' a b F.ropes [] ok.uniq (.inl rfl)
  unfold slD
  rw [this]
  cases F.ropes.find? (fun r => r.1 == a && r.2.1 == b) <;> rfl
theorem slD_pur (F : Sea) : purp (slD F) = true := by
  have put : ∀ (acc : List (VV × VV)) (k v : VV) (d : DKey), purp acc = true → pur k = true → pur v = true → purp (putD acc k d v) = true := by
    intro acc k v d h1 h2 h3
    unfold putD
    split
    · rename_i hd
      clear hd h2
      induction acc with
      | nil => rfl
      | cons p l ih =>
        obtain ⟨a, b⟩ := p
        simp only [purp, purq, Bool.and_eq_true] at h1
        rw [List.map_cons]
        split
        · simp only [purp, purq, Bool.and_eq_true]
          exact ⟨⟨h1.1.1, h3⟩, ih h1.2⟩
        · simp only [purp, purq, Bool.and_eq_true]
          exact ⟨h1.1, ih h1.2⟩
    · rename_i hd
      clear hd
      induction acc with
      | nil => simp [purp, purq, h2, h3]
      | cons p l ih =>
        simp only [purp, Bool.and_eq_true, List.cons_append] at h1 ⊢
        exact ⟨h1.1, ih h1.2⟩
  have : ∀ (l : List Rope) (acc : List (VV × VV)), purp acc = true → purp (l.foldl (fun acc r => putD acc (pairV r) (pairK r) (.int r.2.2)) acc) = true := by
    intro l
    induction l with
    | nil => intro acc h; exact h
    | cons r l ih =>
      intro acc h
      rw [List.foldl_cons]
      exact ih _ (put _ _ _ _ h rfl rfl)
  exact this F.ropes [] rfl
section
variable {P : Pg} {F : Sea} {s : Hs} {b : Bool}
theorem slacks_ok (hP : P "slacks" = some fn_slacks) (ok : F.Ok) (n : Nat) : callF P (n + 1) false "slacks" [seaV b F] s = .ok (.dct true (slD F)) s := by
  rw [callF_run hP rfl]
  have sv : seqOf s (seaV b F) = some [.int F.n, sq b (F.ropes.map (ropeV b))] := q_seq
  have c1 : compL [] (stepC (callF P n) (.tup [(.tup [(.var 1), (.var 2)]), (.var 3)]) (.tup [(.var 1), (.var 2), (.var 3)]) [] [1, 2, 3] [some (seaV b F), none, none, none]) (F.ropes.map (ropeV b)) s = .ok (F.ropes.map fun r => .tup [pairV r, .int r.2.2]) s := compL_map rfl fun r hr => by
    simp only [stepC, ropeV, r_bind, r_assoc, r_lift, r_noX, r_var, r_lit, r_vvn, r_vvb, r_vvi, r_vvs, r_bin, r_neg, r_no, r_conj, r_disj, r_cmp, r_chain, r_ite, r_tup, r_lst, r_idx, r_sl, r_call, r_callk, r_bi, r_bm, r_comp, r_nil, r_cons, r_and1, r_and, r_or1, r_or, r_c0, r_c1, r_range, r_zip, r_enum, r_pl, r_s0, r_s, r_tnx, r_trt, r_tbk, r_tct, r_txc, r_cat, r_asg, r_sub, r_aug, r_expr, r_ret, r_ife, r_for, r_asgv, r_asgt, r_asgl, r_asg0, r_asgc, r_mapS, r_get0, r_gets, r_set0, r_sets, r_wip0, r_wip, r_trb, r_tri, r_ii, r_add, r_subi, r_gIdx, r_dcomp, r_scomp, r_sqt, r_sql, r_sqr, r_gCmp, r_lt, r_gt, r_le, r_ge, r_eqi, r_nei, r_isN, r_isI, r_inN, r_inI, r_neg', r_at0, r_at1, r_at2, r_ort, r_onx, r_lenl, r_lent, r_lenr, r_abs, r_intb, r_inti, r_max2, r_min2, r_tupt, r_tupl, r_tupr, r_listt, r_listl, r_listr, r_p6, r_p9, r_p11, r_p18, r_mkT0, r_mkF0, r_mkM0, r_mkT1, r_mkF1, r_mkM1, r_mkT2, r_mkF2, r_mkM2, r_mkT3, r_mkF3, r_mkM3, r_mkT4, r_mkF4, r_mkM4, r_mkT5, r_mkF5, r_mkM5, r_fld, r_gfld, r_isx, r_isxE, r_isxN, r_bcnt, r_catX, r_rai, r_tryk, r_tryN, r_tryR, r_tryX, r_oxc, r_bindX, sq_t, sq_f, q_seq, q_src, q_len, q_tup, q_list, q_asg, q_pur, q_srt, q_srl, optV_n, optV_s, r_isiI, r_isiT, r_isiL, isTy_ii, isTy_ib, isTy_il, isTy_it, isTy_tt, isTy_tl, isTy_ll, any_n, any_c, r_eqs, r_nes, r_repr, r_addT, if_true, pairV]
  have c2 := putAll_ok (t := true) (k := pairV) (v := fun r => .int r.2.2) (d := pairK) F.ropes [] (fun r _ => ⟨pair_key r, rfl⟩) (by have := ok.len; exact sz_of (by simp; omega))
  have mk : mkD false true (slD F) s = .ok (.dct true (slD F)) s := rfl
  have c3 : putAll true (F.ropes.map fun r => .tup [pairV r, .int r.2.2]) [] = some (slD F) := c2
  simp only [fn_slacks, r_bind, r_assoc, r_lift, r_noX, r_var, r_lit, r_vvn, r_vvb, r_vvi, r_vvs, r_bin, r_neg, r_no, r_conj, r_disj, r_cmp, r_chain, r_ite, r_tup, r_lst, r_idx, r_sl, r_call, r_callk, r_bi, r_bm, r_comp, r_nil, r_cons, r_and1, r_and, r_or1, r_or, r_c0, r_c1, r_range, r_zip, r_enum, r_pl, r_s0, r_s, r_tnx, r_trt, r_tbk, r_tct, r_txc, r_cat, r_asg, r_sub, r_aug, r_expr, r_ret, r_ife, r_for, r_asgv, r_asgt, r_asgl, r_asg0, r_asgc, r_mapS, r_get0, r_gets, r_set0, r_sets, r_wip0, r_wip, r_trb, r_tri, r_ii, r_add, r_subi, r_gIdx, r_dcomp, r_scomp, r_sqt, r_sql, r_sqr, r_gCmp, r_lt, r_gt, r_le, r_ge, r_eqi, r_nei, r_isN, r_isI, r_inN, r_inI, r_neg', r_at0, r_at1, r_at2, r_ort, r_onx, r_lenl, r_lent, r_lenr, r_abs, r_intb, r_inti, r_max2, r_min2, r_tupt, r_tupl, r_tupr, r_listt, r_listl, r_listr, r_p6, r_p9, r_p11, r_p18, r_mkT0, r_mkF0, r_mkM0, r_mkT1, r_mkF1, r_mkM1, r_mkT2, r_mkF2, r_mkM2, r_mkT3, r_mkF3, r_mkM3, r_mkT4, r_mkF4, r_mkM4, r_mkT5, r_mkF5, r_mkM5, r_fld, r_gfld, r_isx, r_isxE, r_isxN, r_bcnt, r_catX, r_rai, r_tryk, r_tryN, r_tryR, r_tryX, r_oxc, r_bindX, sq_t, sq_f, q_seq, q_src, q_len, q_tup, q_list, q_asg, q_pur, q_srt, q_srl, optV_n, optV_s, r_isiI, r_isiT, r_isiL, isTy_ii, isTy_ib, isTy_il, isTy_it, isTy_tt, isTy_tl, isTy_ll, any_n, any_c, r_eqs, r_nes, r_repr, r_addT, List.map_cons, List.map_nil, List.replicate, List.cons_append, List.nil_append, Nat.reduceSub, sv, c1, c3, mk]
  exact fin_same (by
    show purp (slD F) = true
    exact slD_pur F)
/-- the less of two, either none -/
def omin : Option Int → Option Int → Option Int
  | none, y => y
  | x, none => x
  | some a, some b => some (if b < a then b else a)
theorem less_ok (hP : P "less" = some fn_less) (n : Nat) (x y : Option Int) : callF P (n + 1) false "less" [optV x, optV y] s = .ok (optV (omin x y)) s := by
  rw [callF_run hP rfl]
  cases x with
  | none =>
    simp only [fn_less, r_bind, r_assoc, r_lift, r_noX, r_var, r_lit, r_vvn, r_vvb, r_vvi, r_vvs, r_bin, r_neg, r_no, r_conj, r_disj, r_cmp, r_chain, r_ite, r_tup, r_lst, r_idx, r_sl, r_call, r_callk, r_bi, r_bm, r_comp, r_nil, r_cons, r_and1, r_and, r_or1, r_or, r_c0, r_c1, r_range, r_zip, r_enum, r_pl, r_s0, r_s, r_tnx, r_trt, r_tbk, r_tct, r_txc, r_cat, r_asg, r_sub, r_aug, r_expr, r_ret, r_ife, r_for, r_asgv, r_asgt, r_asgl, r_asg0, r_asgc, r_mapS, r_get0, r_gets, r_set0, r_sets, r_wip0, r_wip, r_trb, r_tri, r_ii, r_add, r_subi, r_gIdx, r_dcomp, r_scomp, r_sqt, r_sql, r_sqr, r_gCmp, r_lt, r_gt, r_le, r_ge, r_eqi, r_nei, r_isN, r_isI, r_inN, r_inI, r_neg', r_at0, r_at1, r_at2, r_ort, r_onx, r_lenl, r_lent, r_lenr, r_abs, r_intb, r_inti, r_max2, r_min2, r_tupt, r_tupl, r_tupr, r_listt, r_listl, r_listr, r_p6, r_p9, r_p11, r_p18, r_mkT0, r_mkF0, r_mkM0, r_mkT1, r_mkF1, r_mkM1, r_mkT2, r_mkF2, r_mkM2, r_mkT3, r_mkF3, r_mkM3, r_mkT4, r_mkF4, r_mkM4, r_mkT5, r_mkF5, r_mkM5, r_fld, r_gfld, r_isx, r_isxE, r_isxN, r_bcnt, r_catX, r_rai, r_tryk, r_tryN, r_tryR, r_tryX, r_oxc, r_bindX, sq_t, sq_f, q_seq, q_src, q_len, q_tup, q_list, q_asg, q_pur, q_srt, q_srl, optV_n, optV_s, r_isiI, r_isiT, r_isiL, isTy_ii, isTy_ib, isTy_il, isTy_it, isTy_tt, isTy_tl, isTy_ll, any_n, any_c, r_eqs, r_nes, r_repr, r_addT, List.map_cons, List.map_nil, List.replicate, List.cons_append, List.nil_append, Nat.reduceSub, if_true]
    exact fin_same (optV_pur y)
  | some a =>
    cases y with
    | none =>
      simp only [fn_less, r_bind, r_assoc, r_lift, r_noX, r_var, r_lit, r_vvn, r_vvb, r_vvi, r_vvs, r_bin, r_neg, r_no, r_conj, r_disj, r_cmp, r_chain, r_ite, r_tup, r_lst, r_idx, r_sl, r_call, r_callk, r_bi, r_bm, r_comp, r_nil, r_cons, r_and1, r_and, r_or1, r_or, r_c0, r_c1, r_range, r_zip, r_enum, r_pl, r_s0, r_s, r_tnx, r_trt, r_tbk, r_tct, r_txc, r_cat, r_asg, r_sub, r_aug, r_expr, r_ret, r_ife, r_for, r_asgv, r_asgt, r_asgl, r_asg0, r_asgc, r_mapS, r_get0, r_gets, r_set0, r_sets, r_wip0, r_wip, r_trb, r_tri, r_ii, r_add, r_subi, r_gIdx, r_dcomp, r_scomp, r_sqt, r_sql, r_sqr, r_gCmp, r_lt, r_gt, r_le, r_ge, r_eqi, r_nei, r_isN, r_isI, r_inN, r_inI, r_neg', r_at0, r_at1, r_at2, r_ort, r_onx, r_lenl, r_lent, r_lenr, r_abs, r_intb, r_inti, r_max2, r_min2, r_tupt, r_tupl, r_tupr, r_listt, r_listl, r_listr, r_p6, r_p9, r_p11, r_p18, r_mkT0, r_mkF0, r_mkM0, r_mkT1, r_mkF1, r_mkM1, r_mkT2, r_mkF2, r_mkM2, r_mkT3, r_mkF3, r_mkM3, r_mkT4, r_mkF4, r_mkM4, r_mkT5, r_mkF5, r_mkM5, r_fld, r_gfld, r_isx, r_isxE, r_isxN, r_bcnt, r_catX, r_rai, r_tryk, r_tryN, r_tryR, r_tryX, r_oxc, r_bindX, sq_t, sq_f, q_seq, q_src, q_len, q_tup, q_list, q_asg, q_pur, q_srt, q_srl, optV_n, optV_s, r_isiI, r_isiT, r_isiL, isTy_ii, isTy_ib, isTy_il, isTy_it, isTy_tt, isTy_tl, isTy_ll, any_n, any_c, r_eqs, r_nes, r_repr, r_addT, List.map_cons, List.map_nil, List.replicate, List.cons_append, List.nil_append, Nat.reduceSub, if_true, if_false, Bool.false_eq_true]
      exact fin_same rfl
    | some c =>
      simp only [fn_less, r_bind, r_assoc, r_lift, r_noX, r_var, r_lit, r_vvn, r_vvb, r_vvi, r_vvs, r_bin, r_neg, r_no, r_conj, r_disj, r_cmp, r_chain, r_ite, r_tup, r_lst, r_idx, r_sl, r_call, r_callk, r_bi, r_bm, r_comp, r_nil, r_cons, r_and1, r_and, r_or1, r_or, r_c0, r_c1, r_range, r_zip, r_enum, r_pl, r_s0, r_s, r_tnx, r_trt, r_tbk, r_tct, r_txc, r_cat, r_asg, r_sub, r_aug, r_expr, r_ret, r_ife, r_for, r_asgv, r_asgt, r_asgl, r_asg0, r_asgc, r_mapS, r_get0, r_gets, r_set0, r_sets, r_wip0, r_wip, r_trb, r_tri, r_ii, r_add, r_subi, r_gIdx, r_dcomp, r_scomp, r_sqt, r_sql, r_sqr, r_gCmp, r_lt, r_gt, r_le, r_ge, r_eqi, r_nei, r_isN, r_isI, r_inN, r_inI, r_neg', r_at0, r_at1, r_at2, r_ort, r_onx, r_lenl, r_lent, r_lenr, r_abs, r_intb, r_inti, r_max2, r_min2, r_tupt, r_tupl, r_tupr, r_listt, r_listl, r_listr, r_p6, r_p9, r_p11, r_p18, r_mkT0, r_mkF0, r_mkM0, r_mkT1, r_mkF1, r_mkM1, r_mkT2, r_mkF2, r_mkM2, r_mkT3, r_mkF3, r_mkM3, r_mkT4, r_mkF4, r_mkM4, r_mkT5, r_mkF5, r_mkM5, r_fld, r_gfld, r_isx, r_isxE, r_isxN, r_bcnt, r_catX, r_rai, r_tryk, r_tryN, r_tryR, r_tryX, r_oxc, r_bindX, sq_t, sq_f, q_seq, q_src, q_len, q_tup, q_list, q_asg, q_pur, q_srt, q_srl, optV_n, optV_s, r_isiI, r_isiT, r_isiL, isTy_ii, isTy_ib, isTy_il, isTy_it, isTy_tt, isTy_tl, isTy_ll, any_n, any_c, r_eqs, r_nes, r_repr, r_addT, List.map_cons, List.map_nil, List.replicate, List.cons_append, List.nil_append, Nat.reduceSub, if_false, Bool.false_eq_true]
      exact fin_same rfl
end
end Tw
set_option Elab.async false
set_option linter.all false
set_option autoImplicit false
set_option maxRecDepth 100000
/-! LibLeadsP: the program's leads. -/
namespace Tw
section
variable {g : List (Nat × List VV)} {σ : Sv} {s : Hs}
/-- over a list that is written to what it was -/
theorem forL_okg {step : VV → Sv → Hs → Out Fl} (I : Nat → Sv → Hs → Prop) (hg : ∀ i σ s, I i σ s → gokB s g = true) : ∀ (xs : List VV) (σ : Sv) (s : Hs) (j : Nat), I j σ s →
    (∀ i x σ s, xs[i]? = some x → I (j + i) σ s → ∃ σ' s', step x σ s = .ok (.nx σ') s' ∧ I (j + i + 1) σ' s') → ∃ σ' s', forL g step xs σ s = .ok (.nx σ') s' ∧ I (j + xs.length) σ' s'
  | [], σ, s, j, h, _ => ⟨σ, s, if_pos (hg j σ s h), h⟩
  | x :: xs, σ, s, j, h, k => by
    obtain ⟨σ1, s1, e1, h1⟩ := k 0 x σ s rfl h
    obtain ⟨σ2, s2, e2, h2⟩ := forL_okg I hg xs σ1 s1 (j + 1) h1 fun i y σ s hy hI => by
      have := k (i + 1) y σ s hy (by rw [show j + (i + 1) = j + 1 + i by omega]; exact hI)
      rw [show j + 1 + i + 1 = j + (i + 1) + 1 by omega]
      exact this
    refine ⟨σ2, s2, ?_, ?_⟩
    · show (if gokB s g then (step x σ s).bind _ else _) = _
      rw [if_pos (hg j σ s h), e1]
      exact e2
    · rw [List.length_cons, show j + (xs.length + 1) = j + 1 + xs.length by omega]
      exact h2
theorem vbeqs_map {α : Type} {f : α → VV} : ∀ {l : List α}, (∀ a ∈ l, vbeq (f a) (f a) = true) → vbeqs (l.map f) (l.map f) = true
  | [], _ => by simp [vbeqs]
  | a :: l, h => by
    rw [List.map_cons]
    simp only [vbeqs, Bool.and_eq_true]
    exact ⟨h a List.mem_cons_self, vbeqs_map fun b hb => h b (List.mem_cons_of_mem _ hb)⟩
theorem gok1 {k : Nat} {xs : List VV} (h : s[k]? = some (.lst xs)) (hx : vbeqs xs xs = true) : gokB s [(k, xs)] = true := by
  unfold gokB
  simp only [List.all_cons, List.all_nil, Bool.and_true, h]
  exact hx
end
theorem row_beq (n : Nat) (M : Tab) (i : Nat) : vbeqs (rowV n M i) (rowV n M i) = true := vbeqs_map fun j _ => by
  cases M i j <;> simp [optV, vbeq]
section
variable {P : Pg} {F : Sea} {s : Hs} {b : Bool}
/-- one turn: row i's entry j, by way of k -/
def bodyP : List Stm := [.ife (.conj [(.cmp .isnot (.idx (.var 7) (.var 6)) (.lit .non)), (.cmp .isnot (.var 8) (.lit .non))]) [.sub (.var 7) (.var 3) (.call false "less" [(.idx (.var 7) (.var 3)), (.bin false .add (.idx (.var 7) (.var 6)) (.var 8))])] []]
abbrev sgP (x0 x1 : VV) (n t : Nat) (o3 o4 o6 o7 o8 : Option VV) : Sv := [some x0, some x1, some (.int n), o3, o4, some (.ref t), o6, o7, o8]
theorem bodyP_ok (hL : P "less" = some fn_less) (m : Nat) {n k i j : Nat} {M : Tab} (hk : k < n) (hi : i < n) (hj : j < n) (x0 x1 : VV) (o4 : Option VV) :
    exs (callF P (m + 1)) bodyP (sgP x0 x1 n (s.length + n) (some (.int j)) o4 (some (.int k)) (some (.ref (s.length + i))) (some (optV (M k j)))) (tabS s n M) =
      .ok (.nx (sgP x0 x1 n (s.length + n) (some (.int j)) o4 (some (.int k)) (some (.ref (s.length + i))) (some (optV (M k j))))) (tabS s n (upd2 M i j (via k M i j))) := by
  have hv : via k M i j = (match M i k, M k j with
    | some a, some b => (match M i j with
      | none => some (a + b)
      | some c => if a + b < c then some (a + b) else some c)
    | _, _ => M i j) := rfl
  cases h1 : M i k with
  | none =>
    rw [h1] at hv
    rw [hv, upd2_id]
    simp only [bodyP, r_bind, r_assoc, r_lift, r_noX, r_var, r_lit, r_vvn, r_vvb, r_vvi, r_vvs, r_bin, r_neg, r_no, r_conj, r_disj, r_cmp, r_chain, r_ite, r_tup, r_lst, r_idx, r_sl, r_call, r_callk, r_bi, r_bm, r_comp, r_nil, r_cons, r_and1, r_and, r_or1, r_or, r_c0, r_c1, r_range, r_zip, r_enum, r_pl, r_s0, r_s, r_tnx, r_trt, r_tbk, r_tct, r_txc, r_cat, r_asg, r_sub, r_aug, r_expr, r_ret, r_ife, r_for, r_asgv, r_asgt, r_asgl, r_asg0, r_asgc, r_mapS, r_get0, r_gets, r_set0, r_sets, r_wip0, r_wip, r_trb, r_tri, r_ii, r_add, r_subi, r_gIdx, r_dcomp, r_scomp, r_sqt, r_sql, r_sqr, r_gCmp, r_lt, r_gt, r_le, r_ge, r_eqi, r_nei, r_isN, r_isI, r_inN, r_inI, r_neg', r_at0, r_at1, r_at2, r_ort, r_onx, r_lenl, r_lent, r_lenr, r_abs, r_intb, r_inti, r_max2, r_min2, r_tupt, r_tupl, r_tupr, r_listt, r_listl, r_listr, r_p6, r_p9, r_p11, r_p18, r_mkT0, r_mkF0, r_mkM0, r_mkT1, r_mkF1, r_mkM1, r_mkT2, r_mkF2, r_mkM2, r_mkT3, r_mkF3, r_mkM3, r_mkT4, r_mkF4, r_mkM4, r_mkT5, r_mkF5, r_mkM5, r_fld, r_gfld, r_isx, r_isxE, r_isxN, r_bcnt, r_catX, r_rai, r_tryk, r_tryN, r_tryR, r_tryX, r_oxc, r_bindX, sq_t, sq_f, q_seq, q_src, q_len, q_tup, q_list, q_asg, q_pur, q_srt, q_srl, optV_n, optV_s, r_isiI, r_isiT, r_isiL, isTy_ii, isTy_ib, isTy_il, isTy_it, isTy_tt, isTy_tl, isTy_ll, any_n, any_c, r_eqs, r_nes, r_repr, r_addT, sgP, tab_row hi, row_at hk, h1, if_false, Bool.false_eq_true]
  | some a =>
    cases h2 : M k j with
    | none =>
      rw [h1, h2] at hv
      rw [hv, upd2_id]
      simp only [bodyP, r_bind, r_assoc, r_lift, r_noX, r_var, r_lit, r_vvn, r_vvb, r_vvi, r_vvs, r_bin, r_neg, r_no, r_conj, r_disj, r_cmp, r_chain, r_ite, r_tup, r_lst, r_idx, r_sl, r_call, r_callk, r_bi, r_bm, r_comp, r_nil, r_cons, r_and1, r_and, r_or1, r_or, r_c0, r_c1, r_range, r_zip, r_enum, r_pl, r_s0, r_s, r_tnx, r_trt, r_tbk, r_tct, r_txc, r_cat, r_asg, r_sub, r_aug, r_expr, r_ret, r_ife, r_for, r_asgv, r_asgt, r_asgl, r_asg0, r_asgc, r_mapS, r_get0, r_gets, r_set0, r_sets, r_wip0, r_wip, r_trb, r_tri, r_ii, r_add, r_subi, r_gIdx, r_dcomp, r_scomp, r_sqt, r_sql, r_sqr, r_gCmp, r_lt, r_gt, r_le, r_ge, r_eqi, r_nei, r_isN, r_isI, r_inN, r_inI, r_neg', r_at0, r_at1, r_at2, r_ort, r_onx, r_lenl, r_lent, r_lenr, r_abs, r_intb, r_inti, r_max2, r_min2, r_tupt, r_tupl, r_tupr, r_listt, r_listl, r_listr, r_p6, r_p9, r_p11, r_p18, r_mkT0, r_mkF0, r_mkM0, r_mkT1, r_mkF1, r_mkM1, r_mkT2, r_mkF2, r_mkM2, r_mkT3, r_mkF3, r_mkM3, r_mkT4, r_mkF4, r_mkM4, r_mkT5, r_mkF5, r_mkM5, r_fld, r_gfld, r_isx, r_isxE, r_isxN, r_bcnt, r_catX, r_rai, r_tryk, r_tryN, r_tryR, r_tryX, r_oxc, r_bindX, sq_t, sq_f, q_seq, q_src, q_len, q_tup, q_list, q_asg, q_pur, q_srt, q_srl, optV_n, optV_s, r_isiI, r_isiT, r_isiL, isTy_ii, isTy_ib, isTy_il, isTy_it, isTy_tt, isTy_tl, isTy_ll, any_n, any_c, r_eqs, r_nes, r_repr, r_addT, sgP, tab_row hi, row_at hk, h1, if_true, if_false, Bool.false_eq_true]
    | some c =>
      rw [h1, h2] at hv
      dsimp only at hv
      have lo := less_ok (s := tabS s n M) hL m (M i j) (some (a + c))
      rw [optV_s] at lo
      have e : omin (M i j) (some (a + c)) = via k M i j := by
        rw [hv]
        cases M i j with
        | none => rfl
        | some d =>
          show some (if a + c < d then a + c else d) = if a + c < d then some (a + c) else some d
          split <;> rfl
      rw [e] at lo
      have ts := tab_set (s := s) (M := M) hi hj (via k M i j)
      simp only [bodyP, r_bind, r_assoc, r_lift, r_noX, r_var, r_lit, r_vvn, r_vvb, r_vvi, r_vvs, r_bin, r_neg, r_no, r_conj, r_disj, r_cmp, r_chain, r_ite, r_tup, r_lst, r_idx, r_sl, r_call, r_callk, r_bi, r_bm, r_comp, r_nil, r_cons, r_and1, r_and, r_or1, r_or, r_c0, r_c1, r_range, r_zip, r_enum, r_pl, r_s0, r_s, r_tnx, r_trt, r_tbk, r_tct, r_txc, r_cat, r_asg, r_sub, r_aug, r_expr, r_ret, r_ife, r_for, r_asgv, r_asgt, r_asgl, r_asg0, r_asgc, r_mapS, r_get0, r_gets, r_set0, r_sets, r_wip0, r_wip, r_trb, r_tri, r_ii, r_add, r_subi, r_gIdx, r_dcomp, r_scomp, r_sqt, r_sql, r_sqr, r_gCmp, r_lt, r_gt, r_le, r_ge, r_eqi, r_nei, r_isN, r_isI, r_inN, r_inI, r_neg', r_at0, r_at1, r_at2, r_ort, r_onx, r_lenl, r_lent, r_lenr, r_abs, r_intb, r_inti, r_max2, r_min2, r_tupt, r_tupl, r_tupr, r_listt, r_listl, r_listr, r_p6, r_p9, r_p11, r_p18, r_mkT0, r_mkF0, r_mkM0, r_mkT1, r_mkF1, r_mkM1, r_mkT2, r_mkF2, r_mkM2, r_mkT3, r_mkF3, r_mkM3, r_mkT4, r_mkF4, r_mkM4, r_mkT5, r_mkF5, r_mkM5, r_fld, r_gfld, r_isx, r_isxE, r_isxN, r_bcnt, r_catX, r_rai, r_tryk, r_tryN, r_tryR, r_tryX, r_oxc, r_bindX, sq_t, sq_f, q_seq, q_src, q_len, q_tup, q_list, q_asg, q_pur, q_srt, q_srl, optV_n, optV_s, r_isiI, r_isiT, r_isiL, isTy_ii, isTy_ib, isTy_il, isTy_it, isTy_tt, isTy_tl, isTy_ll, any_n, any_c, r_eqs, r_nes, r_repr, r_addT, sgP, tab_row hi, row_at hk, h1, if_true, row_at hj, lo, ts]
theorem loopPJ (hL : P "less" = some fn_less) (m : Nat) (ok : F.Ok) {k k' i : Nat} {M : Tab} (h : Half F k' M) (hk : k < F.n) (hi : i < F.n) (x0 x1 : VV) (o3 o4 o8 : Option VV) :
    ∃ o3' o8', exs (callF P (m + 1)) [.forr (.tup [(.var 3), (.var 8)]) (.enum (.idx (.var 5) (.var 6))) bodyP] (sgP x0 x1 F.n (s.length + F.n) o3 o4 (some (.int k)) (some (.ref (s.length + i))) o8) (tabS s F.n (asfar k i 0 M)) =
      .ok (.nx (sgP x0 x1 F.n (s.length + F.n) o3' o4 (some (.int k)) (some (.ref (s.length + i))) o8')) (tabS s F.n (asfar k (i + 1) 0 M)) := by
  have rowk : ∀ j : Nat, rowV F.n (asfar k i j M) k = rowV F.n M k := fun j => by
    unfold rowV
    apply List.map_congr_left
    intro a ha
    have ha := List.mem_range.mp ha
    congr 1
    unfold asfar
    split
    · exact via_row ok h hk ha
    · rfl
  have go := forL_okg (g := [(s.length + k, rowV F.n M k)]) (step := stepF (callF P (m + 1)) (.tup [(.var 3), (.var 8)]) bodyP) (fun j σ S => ∃ o3 o8, σ = sgP x0 x1 F.n (s.length + F.n) o3 o4 (some (.int k)) (some (.ref (s.length + i))) o8 ∧ S = tabS s F.n (asfar k i j M))
    (fun j σ S hI => by
      obtain ⟨o3, o8, rfl, rfl⟩ := hI
      refine gok1 ?_ (row_beq _ _ _)
      rw [tab_at hk, rowk j])
    (enumV (rowV F.n M k)) _ _ 0 ⟨o3, o8, rfl, rfl⟩ fun j x σ S hx hI => by
      obtain ⟨y, hy, rfl⟩ := enum_at hx
      obtain ⟨j', hj', rfl⟩ := map_at hy
      obtain ⟨hl, ej⟩ := List.getElem?_eq_some_iff.mp hj'
      rw [List.getElem_range] at ej
      subst ej
      rw [List.length_range] at hl
      obtain ⟨o3, o8, rfl, rfl⟩ := hI
      rw [Nat.zero_add]
      have e := bodyP_ok (s := s) (M := asfar k i j M) hL m hk hi hl x0 x1 o4
      rw [asfar_step ok h hk hi hl] at e
      have ek : asfar k i j M k j = M k j := by
        unfold asfar
        split
        · exact via_row ok h hk hl
        · rfl
      rw [ek] at e
      refine ⟨_, _, ?_, some (.int j), some (optV (M k j)), rfl, rfl⟩
      unfold stepF
      simp only [r_bind, r_assoc, r_lift, r_noX, r_var, r_lit, r_vvn, r_vvb, r_vvi, r_vvs, r_bin, r_neg, r_no, r_conj, r_disj, r_cmp, r_chain, r_ite, r_tup, r_lst, r_idx, r_sl, r_call, r_callk, r_bi, r_bm, r_comp, r_nil, r_cons, r_and1, r_and, r_or1, r_or, r_c0, r_c1, r_range, r_zip, r_enum, r_pl, r_s0, r_s, r_tnx, r_trt, r_tbk, r_tct, r_txc, r_cat, r_asg, r_sub, r_aug, r_expr, r_ret, r_ife, r_for, r_asgv, r_asgt, r_asgl, r_asg0, r_asgc, r_mapS, r_get0, r_gets, r_set0, r_sets, r_wip0, r_wip, r_trb, r_tri, r_ii, r_add, r_subi, r_gIdx, r_dcomp, r_scomp, r_sqt, r_sql, r_sqr, r_gCmp, r_lt, r_gt, r_le, r_ge, r_eqi, r_nei, r_isN, r_isI, r_inN, r_inI, r_neg', r_at0, r_at1, r_at2, r_ort, r_onx, r_lenl, r_lent, r_lenr, r_abs, r_intb, r_inti, r_max2, r_min2, r_tupt, r_tupl, r_tupr, r_listt, r_listl, r_listr, r_p6, r_p9, r_p11, r_p18, r_mkT0, r_mkF0, r_mkM0, r_mkT1, r_mkF1, r_mkM1, r_mkT2, r_mkF2, r_mkM2, r_mkT3, r_mkF3, r_mkM3, r_mkT4, r_mkF4, r_mkM4, r_mkT5, r_mkF5, r_mkM5, r_fld, r_gfld, r_isx, r_isxE, r_isxN, r_bcnt, r_catX, r_rai, r_tryk, r_tryN, r_tryR, r_tryX, r_oxc, r_bindX, sq_t, sq_f, q_seq, q_src, q_len, q_tup, q_list, q_asg, q_pur, q_srt, q_srl, optV_n, optV_s, r_isiI, r_isiT, r_isiL, isTy_ii, isTy_ib, isTy_il, isTy_it, isTy_tt, isTy_tl, isTy_ll, any_n, any_c, r_eqs, r_nes, r_repr, r_addT, sgP]
      exact e
  obtain ⟨σ', S', e, o3', o8', rfl, rfl⟩ := go
  refine ⟨o3', o8', ?_⟩
  have len : (enumV (rowV F.n M k)).length = F.n := by simp [enumV, rowV]
  rw [len, Nat.zero_add] at e
  have en : gEnum (.ref (s.length + k)) (tabS s F.n (asfar k i 0 M)) = .ok (enumV (rowV F.n M k), [(s.length + k, rowV F.n M k)]) (tabS s F.n (asfar k i 0 M)) := by
    unfold gEnum srcOf
    rw [r_sqr, tab_row hk, rowk 0]
    rfl
  have at1 : atV ((List.range F.n).map fun i => VV.ref (s.length + i)) (k : Int) = some (.ref (s.length + k)) := at_rng hk _
  simp only [r_bind, r_assoc, r_lift, r_noX, r_var, r_lit, r_vvn, r_vvb, r_vvi, r_vvs, r_bin, r_neg, r_no, r_conj, r_disj, r_cmp, r_chain, r_ite, r_tup, r_lst, r_idx, r_sl, r_call, r_callk, r_bi, r_bm, r_comp, r_nil, r_cons, r_and1, r_and, r_or1, r_or, r_c0, r_c1, r_range, r_zip, r_enum, r_pl, r_s0, r_s, r_tnx, r_trt, r_tbk, r_tct, r_txc, r_cat, r_asg, r_sub, r_aug, r_expr, r_ret, r_ife, r_for, r_asgv, r_asgt, r_asgl, r_asg0, r_asgc, r_mapS, r_get0, r_gets, r_set0, r_sets, r_wip0, r_wip, r_trb, r_tri, r_ii, r_add, r_subi, r_gIdx, r_dcomp, r_scomp, r_sqt, r_sql, r_sqr, r_gCmp, r_lt, r_gt, r_le, r_ge, r_eqi, r_nei, r_isN, r_isI, r_inN, r_inI, r_neg', r_at0, r_at1, r_at2, r_ort, r_onx, r_lenl, r_lent, r_lenr, r_abs, r_intb, r_inti, r_max2, r_min2, r_tupt, r_tupl, r_tupr, r_listt, r_listl, r_listr, r_p6, r_p9, r_p11, r_p18, r_mkT0, r_mkF0, r_mkM0, r_mkT1, r_mkF1, r_mkM1, r_mkT2, r_mkF2, r_mkM2, r_mkT3, r_mkF3, r_mkM3, r_mkT4, r_mkF4, r_mkM4, r_mkT5, r_mkF5, r_mkM5, r_fld, r_gfld, r_isx, r_isxE, r_isxN, r_bcnt, r_catX, r_rai, r_tryk, r_tryN, r_tryR, r_tryX, r_oxc, r_bindX, sq_t, sq_f, q_seq, q_src, q_len, q_tup, q_list, q_asg, q_pur, q_srt, q_srl, optV_n, optV_s, r_isiI, r_isiT, r_isiL, isTy_ii, isTy_ib, isTy_il, isTy_it, isTy_tt, isTy_tl, isTy_ll, any_n, any_c, r_eqs, r_nes, r_repr, r_addT, sgP, tab_kid, at1, en]
  rw [e]
  simp only [r_bind, r_assoc, r_lift, r_noX, r_var, r_lit, r_vvn, r_vvb, r_vvi, r_vvs, r_bin, r_neg, r_no, r_conj, r_disj, r_cmp, r_chain, r_ite, r_tup, r_lst, r_idx, r_sl, r_call, r_callk, r_bi, r_bm, r_comp, r_nil, r_cons, r_and1, r_and, r_or1, r_or, r_c0, r_c1, r_range, r_zip, r_enum, r_pl, r_s0, r_s, r_tnx, r_trt, r_tbk, r_tct, r_txc, r_cat, r_asg, r_sub, r_aug, r_expr, r_ret, r_ife, r_for, r_asgv, r_asgt, r_asgl, r_asg0, r_asgc, r_mapS, r_get0, r_gets, r_set0, r_sets, r_wip0, r_wip, r_trb, r_tri, r_ii, r_add, r_subi, r_gIdx, r_dcomp, r_scomp, r_sqt, r_sql, r_sqr, r_gCmp, r_lt, r_gt, r_le, r_ge, r_eqi, r_nei, r_isN, r_isI, r_inN, r_inI, r_neg', r_at0, r_at1, r_at2, r_ort, r_onx, r_lenl, r_lent, r_lenr, r_abs, r_intb, r_inti, r_max2, r_min2, r_tupt, r_tupl, r_tupr, r_listt, r_listl, r_listr, r_p6, r_p9, r_p11, r_p18, r_mkT0, r_mkF0, r_mkM0, r_mkT1, r_mkF1, r_mkM1, r_mkT2, r_mkF2, r_mkM2, r_mkT3, r_mkF3, r_mkM3, r_mkT4, r_mkF4, r_mkM4, r_mkT5, r_mkF5, r_mkM5, r_fld, r_gfld, r_isx, r_isxE, r_isxN, r_bcnt, r_catX, r_rai, r_tryk, r_tryN, r_tryR, r_tryX, r_oxc, r_bindX, sq_t, sq_f, q_seq, q_src, q_len, q_tup, q_list, q_asg, q_pur, q_srt, q_srl, optV_n, optV_s, r_isiI, r_isiT, r_isiL, isTy_ii, isTy_ib, isTy_il, isTy_it, isTy_tt, isTy_tl, isTy_ll, any_n, any_c, r_eqs, r_nes, r_repr, r_addT]
  congr 1
  refine tab_congr fun a b ha hb => ?_
  unfold asfar
  by_cases q : a < i + 1 ∨ (a = i + 1 ∧ b < 0)
  · rw [if_pos q, if_pos (by omega)]
  · rw [if_neg q, if_neg (by omega)]
def refsOf (s : Hs) (n : Nat) : List VV := (List.range n).map fun i => .ref (s.length + i)
theorem loopPI (hL : P "less" = some fn_less) (m : Nat) (ok : F.Ok) {k k' : Nat} {M : Tab} (h : Half F k' M) (hk : k < F.n) (x0 x1 : VV) (o3 o4 o7 o8 : Option VV) :
    ∃ o3' o7' o8', exs (callF P (m + 1)) [.forr (.var 7) (.pl (.var 5)) [.forr (.tup [(.var 3), (.var 8)]) (.enum (.idx (.var 5) (.var 6))) bodyP]] (sgP x0 x1 F.n (s.length + F.n) o3 o4 (some (.int k)) o7 o8) (tabS s F.n M) =
      .ok (.nx (sgP x0 x1 F.n (s.length + F.n) o3' o4 (some (.int k)) o7' o8')) (tabS s F.n (via k M)) := by
  have e0 : tabS s F.n M = tabS s F.n (asfar k 0 0 M) := tab_congr fun a b _ _ => (if_neg (by omega)).symm
  rw [e0]
  have tabAt : ∀ M, (tabS s F.n M)[s.length + F.n]? = some (.lst (refsOf s F.n)) := fun M => by
    have := tab_kid (s := s) (n := F.n) (M := M)
    exact kid_some this
  have go := forL_okg (g := [(s.length + F.n, refsOf s F.n)]) (step := stepF (callF P (m + 1)) (.var 7) [.forr (.tup [(.var 3), (.var 8)]) (.enum (.idx (.var 5) (.var 6))) bodyP]) (fun i σ S => ∃ o3 o7 o8, σ = sgP x0 x1 F.n (s.length + F.n) o3 o4 (some (.int k)) o7 o8 ∧ S = tabS s F.n (asfar k i 0 M))
    (fun i σ S hI => by
      obtain ⟨o3, o7, o8, rfl, rfl⟩ := hI
      exact gok1 (tabAt _) (vbeqs_map fun i _ => by simp [vbeq]))
    (refsOf s F.n) _ _ 0 ⟨o3, o7, o8, rfl, rfl⟩ fun i x σ S hx hI => by
      obtain ⟨j', hj', rfl⟩ := map_at hx
      obtain ⟨hl, ej⟩ := List.getElem?_eq_some_iff.mp hj'
      rw [List.getElem_range] at ej
      subst ej
      rw [List.length_range] at hl
      obtain ⟨o3, o7, o8, rfl, rfl⟩ := hI
      rw [Nat.zero_add]
      obtain ⟨o3', o8', e⟩ := loopPJ (s := s) hL m ok h hk hl x0 x1 o3 o4 o8
      exact ⟨_, _, e, o3', some (.ref (s.length + i)), o8', rfl, rfl⟩
  obtain ⟨σ', S', e, o3', o7', o8', rfl, rfl⟩ := go
  refine ⟨o3', o7', o8', ?_⟩
  have len : (refsOf s F.n).length = F.n := by simp [refsOf]
  rw [len, Nat.zero_add] at e
  have sr : srcOf (tabS s F.n (asfar k 0 0 M)) (.ref (s.length + F.n)) = some (refsOf s F.n, [(s.length + F.n, refsOf s F.n)]) := by
    unfold srcOf
    rw [r_sqr, tab_kid]
    rfl
  simp only [r_bind, r_assoc, r_lift, r_noX, r_var, r_lit, r_vvn, r_vvb, r_vvi, r_vvs, r_bin, r_neg, r_no, r_conj, r_disj, r_cmp, r_chain, r_ite, r_tup, r_lst, r_idx, r_sl, r_call, r_callk, r_bi, r_bm, r_comp, r_nil, r_cons, r_and1, r_and, r_or1, r_or, r_c0, r_c1, r_range, r_zip, r_enum, r_pl, r_s0, r_s, r_tnx, r_trt, r_tbk, r_tct, r_txc, r_cat, r_asg, r_sub, r_aug, r_expr, r_ret, r_ife, r_for, r_asgv, r_asgt, r_asgl, r_asg0, r_asgc, r_mapS, r_get0, r_gets, r_set0, r_sets, r_wip0, r_wip, r_trb, r_tri, r_ii, r_add, r_subi, r_gIdx, r_dcomp, r_scomp, r_sqt, r_sql, r_sqr, r_gCmp, r_lt, r_gt, r_le, r_ge, r_eqi, r_nei, r_isN, r_isI, r_inN, r_inI, r_neg', r_at0, r_at1, r_at2, r_ort, r_onx, r_lenl, r_lent, r_lenr, r_abs, r_intb, r_inti, r_max2, r_min2, r_tupt, r_tupl, r_tupr, r_listt, r_listl, r_listr, r_p6, r_p9, r_p11, r_p18, r_mkT0, r_mkF0, r_mkM0, r_mkT1, r_mkF1, r_mkM1, r_mkT2, r_mkF2, r_mkM2, r_mkT3, r_mkF3, r_mkM3, r_mkT4, r_mkF4, r_mkM4, r_mkT5, r_mkF5, r_mkM5, r_fld, r_gfld, r_isx, r_isxE, r_isxN, r_bcnt, r_catX, r_rai, r_tryk, r_tryN, r_tryR, r_tryX, r_oxc, r_bindX, sq_t, sq_f, q_seq, q_src, q_len, q_tup, q_list, q_asg, q_pur, q_srt, q_srl, optV_n, optV_s, r_isiI, r_isiT, r_isiL, isTy_ii, isTy_ib, isTy_il, isTy_it, isTy_tt, isTy_tl, isTy_ll, any_n, any_c, r_eqs, r_nes, r_repr, r_addT, sgP, sr]
  rw [e]
  simp only [r_bind, r_assoc, r_lift, r_noX, r_var, r_lit, r_vvn, r_vvb, r_vvi, r_vvs, r_bin, r_neg, r_no, r_conj, r_disj, r_cmp, r_chain, r_ite, r_tup, r_lst, r_idx, r_sl, r_call, r_callk, r_bi, r_bm, r_comp, r_nil, r_cons, r_and1, r_and, r_or1, r_or, r_c0, r_c1, r_range, r_zip, r_enum, r_pl, r_s0, r_s, r_tnx, r_trt, r_tbk, r_tct, r_txc, r_cat, r_asg, r_sub, r_aug, r_expr, r_ret, r_ife, r_for, r_asgv, r_asgt, r_asgl, r_asg0, r_asgc, r_mapS, r_get0, r_gets, r_set0, r_sets, r_wip0, r_wip, r_trb, r_tri, r_ii, r_add, r_subi, r_gIdx, r_dcomp, r_scomp, r_sqt, r_sql, r_sqr, r_gCmp, r_lt, r_gt, r_le, r_ge, r_eqi, r_nei, r_isN, r_isI, r_inN, r_inI, r_neg', r_at0, r_at1, r_at2, r_ort, r_onx, r_lenl, r_lent, r_lenr, r_abs, r_intb, r_inti, r_max2, r_min2, r_tupt, r_tupl, r_tupr, r_listt, r_listl, r_listr, r_p6, r_p9, r_p11, r_p18, r_mkT0, r_mkF0, r_mkM0, r_mkT1, r_mkF1, r_mkM1, r_mkT2, r_mkF2, r_mkM2, r_mkT3, r_mkF3, r_mkM3, r_mkT4, r_mkF4, r_mkM4, r_mkT5, r_mkF5, r_mkM5, r_fld, r_gfld, r_isx, r_isxE, r_isxN, r_bcnt, r_catX, r_rai, r_tryk, r_tryN, r_tryR, r_tryX, r_oxc, r_bindX, sq_t, sq_f, q_seq, q_src, q_len, q_tup, q_list, q_asg, q_pur, q_srt, q_srl, optV_n, optV_s, r_isiI, r_isiT, r_isiL, isTy_ii, isTy_ib, isTy_il, isTy_it, isTy_tt, isTy_tl, isTy_ll, any_n, any_c, r_eqs, r_nes, r_repr, r_addT]
  congr 1
  exact tab_congr fun a b ha hb => if_pos (.inl ha)
theorem loopPK (hL : P "less" = some fn_less) (m : Nat) (ok : F.Ok) (x0 x1 : VV) (o3 o4 o6 o7 o8 : Option VV) :
    ∃ o3' o6' o7' o8', forL [] (stepF (callF P (m + 1)) (.var 6) [.forr (.var 7) (.pl (.var 5)) [.forr (.tup [(.var 3), (.var 8)]) (.enum (.idx (.var 5) (.var 6))) bodyP]]) ((List.range F.n).map fun (j : Nat) => VV.int j) (sgP x0 x1 F.n (s.length + F.n) o3 o4 o6 o7 o8) (tabS s F.n (first F)) =
      .ok (.nx (sgP x0 x1 F.n (s.length + F.n) o3' o4 o6' o7' o8')) (tabS s F.n (lead F)) := by
  have go := forL_ok (step := stepF (callF P (m + 1)) (.var 6) [.forr (.var 7) (.pl (.var 5)) [.forr (.tup [(.var 3), (.var 8)]) (.enum (.idx (.var 5) (.var 6))) bodyP]]) (fun k σ S => ∃ o3 o6 o7 o8, σ = sgP x0 x1 F.n (s.length + F.n) o3 o4 o6 o7 o8 ∧ S = tabS s F.n (leadK F k))
    ((List.range F.n).map fun (j : Nat) => VV.int j) (sgP x0 x1 F.n (s.length + F.n) o3 o4 o6 o7 o8) (tabS s F.n (first F)) 0 ⟨o3, o6, o7, o8, rfl, rfl⟩ fun k x σ S hx hI => by
      obtain ⟨hk, rfl⟩ := range_at hx
      obtain ⟨o3, o6, o7, o8, rfl, rfl⟩ := hI
      rw [Nat.zero_add]
      obtain ⟨o3', o7', o8', e⟩ := loopPI (s := s) hL m ok (leadK_half ok k (by omega)) hk x0 x1 o3 o4 o7 o8
      exact ⟨_, _, e, o3', some (.int k), o7', o8', rfl, rfl⟩
  obtain ⟨σ', S', e, o3', o6', o7', o8', rfl, rfl⟩ := go
  rw [List.length_map, List.length_range, Nat.zero_add] at e
  exact ⟨o3', o6', o7', o8', e⟩
/-- the table of slacks, made row by row -/
theorem compP_ok {cl : Cl} (ok : F.Ok) (x0 : VV) (o3 o4 o5 o6 o7 o8 : Option VV) :
    ev cl (.comp true (.comp true (.ite (.cmp .eq (.var 4) (.var 3)) (.lit (.int 0)) (.bm .get (.var 1) [(.tup [(.var 4), (.var 3)]), (.lit .non)])) (.var 3) (.range [(.var 2)]) [] [3]) (.var 4) (.range [(.var 2)]) [] [4]) [some x0, some (.dct true (slD F)), some (.int F.n), o3, o4, o5, o6, o7, o8] s =
      .ok (.ref (s.length + F.n)) (tabS s F.n (first F)) := by
  have row : ∀ (i : Nat) (S : Hs), ev cl (.comp true (.ite (.cmp .eq (.var 4) (.var 3)) (.lit (.int 0)) (.bm .get (.var 1) [(.tup [(.var 4), (.var 3)]), (.lit .non)])) (.var 3) (.range [(.var 2)]) [] [3]) [some x0, some (.dct true (slD F)), some (.int F.n), o3, some (.int i), o5, o6, o7, o8] S =
      .ok (.ref S.length) (S ++ [.lst (rowV F.n (first F) i)]) := fun i S => by
    have c : compL [] (stepC cl (.ite (.cmp .eq (.var 4) (.var 3)) (.lit (.int 0)) (.bm .get (.var 1) [(.tup [(.var 4), (.var 3)]), (.lit .non)])) (.var 3) [] [3] [some x0, some (.dct true (slD F)), some (.int F.n), o3, some (.int i), o5, o6, o7, o8]) ((List.range F.n).map fun (j : Nat) => VV.int j) S =
        .ok (rowV F.n (first F) i) S := compL_map rfl fun j _ => by
      have ty : bmTy .get (.dct true (slD F)) S = some () := getTy_d (t := true) (kvs := slD F) rfl
      have gt : bmV .get (.dct true (slD F)) [.tup [.int i, .int j], .non] S = .ok ((lookD (slD F) (.t [some (i : Int), some (j : Int)])).getD .non) S := get_d (k := .t [some (i : Int), some (j : Int)]) rfl rfl rfl
      rw [slD_look ok] at gt
      by_cases h : (i : Int) = (j : Int)
      · have h' : i = j := by omega
        have e1 : first F i j = some 0 := if_pos h'
        simp only [stepC, r_bind, r_assoc, r_lift, r_noX, r_var, r_lit, r_vvn, r_vvb, r_vvi, r_vvs, r_bin, r_neg, r_no, r_conj, r_disj, r_cmp, r_chain, r_ite, r_tup, r_lst, r_idx, r_sl, r_call, r_callk, r_bi, r_bm, r_comp, r_nil, r_cons, r_and1, r_and, r_or1, r_or, r_c0, r_c1, r_range, r_zip, r_enum, r_pl, r_s0, r_s, r_tnx, r_trt, r_tbk, r_tct, r_txc, r_cat, r_asg, r_sub, r_aug, r_expr, r_ret, r_ife, r_for, r_asgv, r_asgt, r_asgl, r_asg0, r_asgc, r_mapS, r_get0, r_gets, r_set0, r_sets, r_wip0, r_wip, r_trb, r_tri, r_ii, r_add, r_subi, r_gIdx, r_dcomp, r_scomp, r_sqt, r_sql, r_sqr, r_gCmp, r_lt, r_gt, r_le, r_ge, r_eqi, r_nei, r_isN, r_isI, r_inN, r_inI, r_neg', r_at0, r_at1, r_at2, r_ort, r_onx, r_lenl, r_lent, r_lenr, r_abs, r_intb, r_inti, r_max2, r_min2, r_tupt, r_tupl, r_tupr, r_listt, r_listl, r_listr, r_p6, r_p9, r_p11, r_p18, r_mkT0, r_mkF0, r_mkM0, r_mkT1, r_mkF1, r_mkM1, r_mkT2, r_mkF2, r_mkM2, r_mkT3, r_mkF3, r_mkM3, r_mkT4, r_mkF4, r_mkM4, r_mkT5, r_mkF5, r_mkM5, r_fld, r_gfld, r_isx, r_isxE, r_isxN, r_bcnt, r_catX, r_rai, r_tryk, r_tryN, r_tryR, r_tryX, r_oxc, r_bindX, sq_t, sq_f, q_seq, q_src, q_len, q_tup, q_list, q_asg, q_pur, q_srt, q_srl, optV_n, optV_s, r_isiI, r_isiT, r_isiL, isTy_ii, isTy_ib, isTy_il, isTy_it, isTy_tt, isTy_tl, isTy_ll, any_n, any_c, r_eqs, r_nes, r_repr, r_addT, h, decide_true, if_true, e1]
      · have h' : ¬ i = j := by omega
        have e1 : first F i j = (F.ropes.find? fun r => r.1 == i && r.2.1 == j).map (·.2.2) := if_neg h'
        have e2 : ((F.ropes.find? fun r => r.1 == i && r.2.1 == j).map fun r => VV.int r.2.2).getD .non = optV (first F i j) := by
          rw [e1]
          cases F.ropes.find? (fun r => r.1 == i && r.2.1 == j) <;> rfl
        rw [e2] at gt
        simp only [stepC, r_bind, r_assoc, r_lift, r_noX, r_var, r_lit, r_vvn, r_vvb, r_vvi, r_vvs, r_bin, r_neg, r_no, r_conj, r_disj, r_cmp, r_chain, r_ite, r_tup, r_lst, r_idx, r_sl, r_call, r_callk, r_bi, r_bm, r_comp, r_nil, r_cons, r_and1, r_and, r_or1, r_or, r_c0, r_c1, r_range, r_zip, r_enum, r_pl, r_s0, r_s, r_tnx, r_trt, r_tbk, r_tct, r_txc, r_cat, r_asg, r_sub, r_aug, r_expr, r_ret, r_ife, r_for, r_asgv, r_asgt, r_asgl, r_asg0, r_asgc, r_mapS, r_get0, r_gets, r_set0, r_sets, r_wip0, r_wip, r_trb, r_tri, r_ii, r_add, r_subi, r_gIdx, r_dcomp, r_scomp, r_sqt, r_sql, r_sqr, r_gCmp, r_lt, r_gt, r_le, r_ge, r_eqi, r_nei, r_isN, r_isI, r_inN, r_inI, r_neg', r_at0, r_at1, r_at2, r_ort, r_onx, r_lenl, r_lent, r_lenr, r_abs, r_intb, r_inti, r_max2, r_min2, r_tupt, r_tupl, r_tupr, r_listt, r_listl, r_listr, r_p6, r_p9, r_p11, r_p18, r_mkT0, r_mkF0, r_mkM0, r_mkT1, r_mkF1, r_mkM1, r_mkT2, r_mkF2, r_mkM2, r_mkT3, r_mkF3, r_mkM3, r_mkT4, r_mkF4, r_mkM4, r_mkT5, r_mkF5, r_mkM5, r_fld, r_gfld, r_isx, r_isxE, r_isxN, r_bcnt, r_catX, r_rai, r_tryk, r_tryN, r_tryR, r_tryX, r_oxc, r_bindX, sq_t, sq_f, q_seq, q_src, q_len, q_tup, q_list, q_asg, q_pur, q_srt, q_srl, optV_n, optV_s, r_isiI, r_isiT, r_isiL, isTy_ii, isTy_ib, isTy_il, isTy_it, isTy_tt, isTy_tl, isTy_ll, any_n, any_c, r_eqs, r_nes, r_repr, r_addT, h, decide_false, if_false, Bool.false_eq_true, if_true, ty, gt]
    have mk : mkL true (rowV F.n (first F) i) S = .ok (.ref S.length) (S ++ [.lst (rowV F.n (first F) i)]) := mkL_t (by unfold rowV; rw [List.length_map, List.length_range]; exact sz_of (by have := ok.few; omega))
    simp only [r_bind, r_assoc, r_lift, r_noX, r_var, r_lit, r_vvn, r_vvb, r_vvi, r_vvs, r_bin, r_neg, r_no, r_conj, r_disj, r_cmp, r_chain, r_ite, r_tup, r_lst, r_idx, r_sl, r_call, r_callk, r_bi, r_bm, r_comp, r_nil, r_cons, r_and1, r_and, r_or1, r_or, r_c0, r_c1, r_range, r_zip, r_enum, r_pl, r_s0, r_s, r_tnx, r_trt, r_tbk, r_tct, r_txc, r_cat, r_asg, r_sub, r_aug, r_expr, r_ret, r_ife, r_for, r_asgv, r_asgt, r_asgl, r_asg0, r_asgc, r_mapS, r_get0, r_gets, r_set0, r_sets, r_wip0, r_wip, r_trb, r_tri, r_ii, r_add, r_subi, r_gIdx, r_dcomp, r_scomp, r_sqt, r_sql, r_sqr, r_gCmp, r_lt, r_gt, r_le, r_ge, r_eqi, r_nei, r_isN, r_isI, r_inN, r_inI, r_neg', r_at0, r_at1, r_at2, r_ort, r_onx, r_lenl, r_lent, r_lenr, r_abs, r_intb, r_inti, r_max2, r_min2, r_tupt, r_tupl, r_tupr, r_listt, r_listl, r_listr, r_p6, r_p9, r_p11, r_p18, r_mkT0, r_mkF0, r_mkM0, r_mkT1, r_mkF1, r_mkM1, r_mkT2, r_mkF2, r_mkM2, r_mkT3, r_mkF3, r_mkM3, r_mkT4, r_mkF4, r_mkM4, r_mkT5, r_mkF5, r_mkM5, r_fld, r_gfld, r_isx, r_isxE, r_isxN, r_bcnt, r_catX, r_rai, r_tryk, r_tryN, r_tryR, r_tryX, r_oxc, r_bindX, sq_t, sq_f, q_seq, q_src, q_len, q_tup, q_list, q_asg, q_pur, q_srt, q_srl, optV_n, optV_s, r_isiI, r_isiT, r_isiL, isTy_ii, isTy_ib, isTy_il, isTy_it, isTy_tt, isTy_tl, isTy_ll, any_n, any_c, r_eqs, r_nes, r_repr, r_addT, rng_nat (rngs ok.few), c, mk]
  have go := compL_ok (step := stepC cl (.comp true (.ite (.cmp .eq (.var 4) (.var 3)) (.lit (.int 0)) (.bm .get (.var 1) [(.tup [(.var 4), (.var 3)]), (.lit .non)])) (.var 3) (.range [(.var 2)]) [] [3]) (.var 4) [] [4] [some x0, some (.dct true (slD F)), some (.int F.n), o3, o4, o5, o6, o7, o8])
    (fun i acc S => i ≤ F.n ∧ acc = (List.range i).map (fun i => .ref (s.length + i)) ∧ S = s ++ (List.range i).map fun i => Ob.lst (rowV F.n (first F) i))
    ((List.range F.n).map fun (j : Nat) => VV.int j) [] s 0 ⟨Nat.zero_le _, rfl, by simp⟩ fun i x acc S hx hI => by
      obtain ⟨hi, rfl⟩ := range_at hx
      rw [Nat.zero_add] at hI ⊢
      obtain ⟨_, rfl, rfl⟩ := hI
      have e1 := row i (s ++ (List.range i).map fun i => Ob.lst (rowV F.n (first F) i))
      have e2 := stepC_v (cl := cl) (σ := [some x0, some (.dct true (slD F)), some (.int F.n), o3, o4, o5, o6, o7, o8]) (s := s ++ (List.range i).map fun i => Ob.lst (rowV F.n (first F) i))
        (.comp true (.ite (.cmp .eq (.var 4) (.var 3)) (.lit (.int 0)) (.bm .get (.var 1) [(.tup [(.var 4), (.var 3)]), (.lit .non)])) (.var 3) (.range [(.var 2)]) [] [3]) 4 [4] (.int i)
      simp only [r_wip, r_wip0, r_sets, r_set0] at e2
      rw [e1] at e2
      refine ⟨_, _, e2, by omega, ?_, ?_⟩
      · rw [List.range_succ, List.map_append]
        simp
      · rw [List.range_succ, List.map_append]
        simp
  obtain ⟨rs, S', e, _, h1, h2⟩ := go
  rw [List.length_map, List.length_range, Nat.zero_add] at h1 h2
  rw [List.nil_append] at h1
  subst h1 h2
  have mk : ∀ S, mkL true ((List.range F.n).map fun i => VV.ref (s.length + i)) S = .ok (.ref S.length) (S ++ [.lst ((List.range F.n).map fun i => VV.ref (s.length + i))]) := fun S => mkL_t (by rw [List.length_map, List.length_range]; exact sz_of (by have := ok.few; omega))
  rw [r_comp]
  simp only [r_range, r_cons, r_nil, r_var, r_gets, r_get0, r_bind, rng_nat (rngs ok.few), e, r_noX, mk]
  congr 1
  · simp
  · unfold tabS
    rw [List.append_assoc]
theorem leadsP_e (hS : P "slacks" = some fn_slacks) (hL : P "less" = some fn_less) (ok : F.Ok) (n : Nat) : ∃ g, exs (callF P (n + 1)) fn_leads.body [some (seaV b F), none, none, none, none, none, none, none, none] s = .ok (.rt (.ref (s.length + F.n))) (tabS s F.n (lead F)) ∧ g = () := by
  refine ⟨(), ?_, rfl⟩
  have c := compP_ok (s := s) (cl := callF P (n + 1)) ok (seaV b F) none none none none none none
  have sl := slacks_ok (s := s) (b := b) hS ok n
  have sv : seqOf s (seaV b F) = some [.int F.n, sq b (F.ropes.map (ropeV b))] := q_seq
  obtain ⟨o3', o6', o7', o8', e⟩ := loopPK (s := s) hL n ok (seaV b F) (.dct true (slD F)) none none none none none
  have rg := rng_nat (s := tabS s F.n (first F)) (rngs ok.few)
  simp only [fn_leads, r_s, r_asg, r_tup, r_cons, r_nil, r_call, r_idx, r_lit, r_vvi, r_var, r_get0, r_gets, r_bind, r_assoc, sl, r_gIdx, sv, r_at0, r_lift, r_mkT2, r_asgt, r_asgc, r_asgv, r_asg0, r_set0, r_sets, r_mapS, r_cat, r_tnx, c, r_for, r_range, rg]
  unfold bodyP sgP at e
  rw [e]
  simp only [r_bind, r_assoc, r_lift, r_noX, r_var, r_lit, r_vvn, r_vvb, r_vvi, r_vvs, r_bin, r_neg, r_no, r_conj, r_disj, r_cmp, r_chain, r_ite, r_tup, r_lst, r_idx, r_sl, r_call, r_callk, r_bi, r_bm, r_comp, r_nil, r_cons, r_and1, r_and, r_or1, r_or, r_c0, r_c1, r_range, r_zip, r_enum, r_pl, r_s0, r_s, r_tnx, r_trt, r_tbk, r_tct, r_txc, r_cat, r_asg, r_sub, r_aug, r_expr, r_ret, r_ife, r_for, r_asgv, r_asgt, r_asgl, r_asg0, r_asgc, r_mapS, r_get0, r_gets, r_set0, r_sets, r_wip0, r_wip, r_trb, r_tri, r_ii, r_add, r_subi, r_gIdx, r_dcomp, r_scomp, r_sqt, r_sql, r_sqr, r_gCmp, r_lt, r_gt, r_le, r_ge, r_eqi, r_nei, r_isN, r_isI, r_inN, r_inI, r_neg', r_at0, r_at1, r_at2, r_ort, r_onx, r_lenl, r_lent, r_lenr, r_abs, r_intb, r_inti, r_max2, r_min2, r_tupt, r_tupl, r_tupr, r_listt, r_listl, r_listr, r_p6, r_p9, r_p11, r_p18, r_mkT0, r_mkF0, r_mkM0, r_mkT1, r_mkF1, r_mkM1, r_mkT2, r_mkF2, r_mkM2, r_mkT3, r_mkF3, r_mkM3, r_mkT4, r_mkF4, r_mkM4, r_mkT5, r_mkF5, r_mkM5, r_fld, r_gfld, r_isx, r_isxE, r_isxN, r_bcnt, r_catX, r_rai, r_tryk, r_tryN, r_tryR, r_tryX, r_oxc, r_bindX, sq_t, sq_f, q_seq, q_src, q_len, q_tup, q_list, q_asg, q_pur, q_srt, q_srl, optV_n, optV_s, r_isiI, r_isiT, r_isiL, isTy_ii, isTy_ib, isTy_il, isTy_it, isTy_tt, isTy_tl, isTy_ll, any_n, any_c, r_eqs, r_nes, r_repr, r_addT]
theorem leadsP_ok (hS : P "slacks" = some fn_slacks) (hL : P "less" = some fn_less) (hP : P "leads" = some fn_leads) (ok : F.Ok) (n : Nat) : callF P (n + 2) false "leads" [seaV b F] s = .ok (tabV F.n (lead F)) s := by
  rw [callF_run hP rfl]
  obtain ⟨_, e, _⟩ := leadsP_e (s := s) (b := b) hS hL ok n
  show (exs (callF P (n + 1)) fn_leads.body [some (seaV b F), none, none, none, none, none, none, none, none] s).bind _ = _
  rw [e]
  exact tab_frz ok.few
end
end Tw
set_option Elab.async false
set_option linter.all false
set_option autoImplicit false
/-! LibTowT: whom a stroke tows, in plain Lean. -/
namespace Tw
def taut (f : Mk) (r : Rope) : Bool := decide (f r.2.1 = f r.1 - r.2.2)
/-- those that lie their lead behind r -/
def towB (F : Sea) (f : Mk) (r j : Nat) : Bool := match lead F r j with
  | some d => decide (f j = f r - d)
  | none => false
def tows (F : Sea) (f : Mk) (r : Nat) : List Nat := (List.range F.n).filter (towB F f r)
theorem towB_iff {F : Sea} {f : Mk} {r j : Nat} : towB F f r j = true ↔ ∃ d, lead F r j = some d ∧ f j = f r - d := by
  unfold towB
  cases lead F r j with
  | none => simp
  | some d => simp
theorem tows_mem {F : Sea} {f : Mk} {r j : Nat} : j ∈ tows F f r ↔ j < F.n ∧ ∃ d, lead F r j = some d ∧ f j = f r - d := by
  unfold tows
  rw [List.mem_filter, List.mem_range, towB_iff]
theorem tows_self {F : Sea} (ok : F.Ok) {f : Mk} {r : Nat} (hr : r < F.n) : r ∈ tows F f r := tows_mem.mpr ⟨hr, 0, (lead_ok ok).diag r hr, by omega⟩
/-- a taut line leads on -/
theorem tows_step {F : Sea} (ok : F.Ok) {f : Mk} (st : Stand F f) {r : Nat} (hr : r < F.n) {q : Rope} (hq : q ∈ F.ropes) (h : q.1 ∈ tows F f r) (ht : f q.2.1 = f q.1 - q.2.2) : q.2.1 ∈ tows F f r := by
  have L := lead_ok ok
  obtain ⟨h1, d, e1, e2⟩ := tows_mem.mp h
  have h2 := ok.lt2 q hq
  obtain ⟨d', e3, l3⟩ := L.edge q hq
  obtain ⟨e, e4, l4⟩ := L.tri q.1 h1 r q.2.1 d d' hr h2 e1 e3
  have := L.sound r q.2.1 e hr h2 e4 f st
  exact tows_mem.mpr ⟨h2, e, e4, by omega⟩
/-- what is closed under taut lines holds them all -/
theorem tows_in {F : Sea} (ok : F.Ok) {f : Mk} (st : Stand F f) {r : Nat} (hr : r < F.n) (T : Nat → Prop) (h0 : T r) (hc : ∀ q ∈ F.ropes, T q.1 → f q.2.1 = f q.1 - q.2.2 → T q.2.1) {j : Nat} (hj : j ∈ tows F f r) : T j := by
  have L := lead_ok ok
  obtain ⟨hn, d, e1, e2⟩ := tows_mem.mp hj
  apply Classical.byContradiction
  intro hT
  have dec : ∀ i, Decidable (T i) := fun i => Classical.propDecidable _
  let t : Mk := fun i => @ite Int (T i) (dec i) (f i + 1) (f i)
  have t1 : ∀ i, T i → t i = f i + 1 := fun i h => by show @ite Int (T i) (dec i) _ _ = _; rw [if_pos h]
  have t0 : ∀ i, ¬ T i → t i = f i := fun i h => by show @ite Int (T i) (dec i) _ _ = _; rw [if_neg h]
  have ts : Stand F t := fun q hq => by
    have s := st q hq
    by_cases h1 : T q.1
    · rw [t1 _ h1]
      by_cases h2 : T q.2.1
      · rw [t1 _ h2]; omega
      · rw [t0 _ h2]
        have : f q.2.1 ≠ f q.1 - q.2.2 := fun e => h2 (hc q hq h1 e)
        omega
    · rw [t0 _ h1]
      by_cases h2 : T q.2.1
      · rw [t1 _ h2]; omega
      · rw [t0 _ h2]; exact s
  have := L.sound r j d hr hn e1 t ts
  rw [t1 r h0, t0 j hT] at this
  omega
/-- one stroke -/
def stroke (F : Sea) (f : Mk) (r : Nat) : Mk := fun j => if towB F f r j then f j + 1 else f j
theorem stroke_yes {F : Sea} {f : Mk} {r j : Nat} (hj : j ∈ tows F f r) : stroke F f r j = f j + 1 := by
  have := (List.mem_filter.mp hj).2
  unfold stroke
  rw [if_pos this]
theorem stroke_no {F : Sea} {f : Mk} {r j : Nat} (hn : j < F.n) (hj : j ∉ tows F f r) : stroke F f r j = f j := by
  unfold stroke
  rw [if_neg]
  intro h
  exact hj (List.mem_filter.mpr ⟨List.mem_range.mpr hn, h⟩)
theorem stroke_up {F : Sea} {f : Mk} {r j : Nat} : f j ≤ stroke F f r j := by
  unfold stroke
  split <;> omega
theorem stroke_stand {F : Sea} (ok : F.Ok) {f : Mk} (st : Stand F f) {r : Nat} (hr : r < F.n) : Stand F (stroke F f r) := fun q hq => by
  have s := st q hq
  have h1 := ok.lt1 q hq
  have h2 := ok.lt2 q hq
  by_cases a : q.1 ∈ tows F f r
  · rw [stroke_yes a]
    by_cases b : q.2.1 ∈ tows F f r
    · rw [stroke_yes b]; omega
    · rw [stroke_no h2 b]
      have : f q.2.1 ≠ f q.1 - q.2.2 := fun e => b (tows_step ok st hr hq a e)
      omega
  · rw [stroke_no h1 a]
    have := stroke_up (F := F) (f := f) (r := r) (j := q.2.1)
    omega
/-- the rower one farther on -/
def ahead (f : Mk) (r : Nat) : Mk := fun j => if j = r then f r + 1 else f j
theorem stroke_moor {F : Sea} (ok : F.Ok) {f : Mk} (st : Stand F f) {r : Nat} (hr : r < F.n) : IsMoor F (ahead f r) (stroke F f r) := by
  refine ⟨stroke_stand ok st hr, fun i hi => ?_, fun t ts up i hi => ?_⟩
  · unfold ahead
    split
    · rename_i e
      subst e
      rw [stroke_yes (tows_self ok hr)]
      exact Int.le_refl _
    · exact stroke_up
  · by_cases a : i ∈ tows F f r
    · rw [stroke_yes a]
      obtain ⟨_, d, e1, e2⟩ := tows_mem.mp a
      have h1 := (lead_ok ok).sound r i d hr hi e1 t ts
      have h2 := up r hr
      unfold ahead at h2
      rw [if_pos rfl] at h2
      omega
    · rw [stroke_no hi a]
      have h2 := up i hi
      unfold ahead at h2
      split at h2
      · rename_i e; subst e; omega
      · exact h2
/-- strokes of two of which neither leads the other -/
theorem tows_after {F : Sea} (ok : F.Ok) {f : Mk} (st : Stand F f) {r m : Nat} (hr : r < F.n) (hm : m < F.n) (h1 : lead F r m = none) (hd : ∀ j, j ∈ tows F f r → j ∉ tows F f m) {j : Nat} (hj : j < F.n) : j ∈ tows F (stroke F f r) m ↔ j ∈ tows F f m := by
  have mno : m ∉ tows F f r := fun h => by
    obtain ⟨_, d, e, _⟩ := tows_mem.mp h
    rw [h1] at e
    cases e
  have em := stroke_no (f := f) hm mno
  constructor
  · intro h
    obtain ⟨_, d, e1, e2⟩ := tows_mem.mp h
    have h2 := (lead_ok ok).sound m j d hm hj e1 f st
    have h3 := stroke_up (F := F) (f := f) (r := r) (j := j)
    rw [em] at e2
    exact tows_mem.mpr ⟨hj, d, e1, by omega⟩
  · intro h
    have jno : j ∉ tows F f r := fun z => hd j z h
    obtain ⟨_, d, e1, e2⟩ := tows_mem.mp h
    exact tows_mem.mpr ⟨hj, d, e1, by rw [stroke_no hj jno, em]; exact e2⟩
theorem exchange {F : Sea} (ok : F.Ok) {f : Mk} (st : Stand F f) {r m : Nat} (hr : r < F.n) (hm : m < F.n) (h1 : lead F r m = none) (h2 : lead F m r = none) (hd : ∀ j, j ∈ tows F f r → j ∉ tows F f m) {j : Nat} (hj : j < F.n) :
    stroke F (stroke F f r) m j = stroke F (stroke F f m) r j := by
  have a := tows_after ok st hr hm h1 hd hj
  have b := tows_after ok st hm hr h2 (fun i x y => hd i y x) hj
  by_cases c : j ∈ tows F f r
  · have d := hd j c
    rw [stroke_no (f := stroke F f r) hj (fun z => d (a.mp z)), stroke_yes c, stroke_yes (f := stroke F f m) (b.mpr c), stroke_no hj d]
  · by_cases d : j ∈ tows F f m
    · rw [stroke_yes (f := stroke F f r) (a.mpr d), stroke_no hj c, stroke_no (f := stroke F f m) hj (fun z => c (b.mp z)), stroke_yes d]
    · rw [stroke_no (f := stroke F f r) hj (fun z => d (a.mp z)), stroke_no hj c, stroke_no (f := stroke F f m) hj (fun z => c (b.mp z)), stroke_no hj d]
/-! lists of boats -/
theorem sortS_len : ∀ {l : List Int}, l.Nodup → (sortS l).length = l.length
  | [], _ => rfl
  | x :: l, h => by
    rw [List.nodup_cons] at h
    show (insS x (sortS l)).length = _
    rw [(insS_len (a := x) (l := sortS l) sortS_sorted).2 (fun q => h.1 (sortS_mem.mp q)), sortS_len h.2, List.length_cons]
theorem sorted_len : ∀ {l : List Int} {lo hi : Int}, l.Pairwise (· < ·) → (∀ x ∈ l, lo ≤ x ∧ x < hi) → lo ≤ hi → (l.length : Int) ≤ hi - lo
  | [], lo, hi, _, _, h => by simp; omega
  | x :: l, lo, hi, hp, hb, h => by
    rw [List.pairwise_cons] at hp
    have hx := hb x List.mem_cons_self
    have := sorted_len (lo := x + 1) (hi := hi) hp.2 (fun y hy => ⟨by have := hp.1 y hy; omega, (hb y (List.mem_cons_of_mem _ hy)).2⟩) (by omega)
    rw [List.length_cons]
    omega
theorem few_len {l : List Int} {n : Nat} (h : l.Nodup) (hb : ∀ x ∈ l, 0 ≤ x ∧ x < n) : l.length ≤ n := by
  have := sorted_len (l := sortS l) (lo := 0) (hi := n) sortS_sorted (fun x hx => hb x (sortS_mem.mp hx)) (by omega)
  rw [sortS_len h] at this
  omega
theorem insI_insS {x : Int} : ∀ {l : List Int}, x ∉ l → insI x l = insS x l
  | [], _ => rfl
  | y :: l, h => by
    have hy : x ≠ y := fun e => h (e ▸ List.mem_cons_self)
    unfold insI insS
    by_cases hl : x < y
    · rw [if_pos (by omega), if_pos hl]
    · rw [if_neg (by omega), if_neg hl, if_neg hy, insI_insS fun q => h (List.mem_cons_of_mem _ q)]
theorem sortI_sortS : ∀ {l : List Int}, l.Nodup → sortI l = sortS l
  | [], _ => rfl
  | x :: l, h => by
    rw [List.nodup_cons] at h
    show insI x (sortI l) = insS x (sortS l)
    rw [sortI_sortS h.2, insI_insS fun q => h.1 (sortS_mem.mp q)]
theorem tows_sorted {F : Sea} {f : Mk} {r : Nat} : ((tows F f r).map fun (j : Nat) => (j : Int)).Pairwise (· < ·) := by
  rw [List.pairwise_map]
  unfold tows
  refine List.Pairwise.imp (R := fun a b => a < b) (fun {a b} h => by omega) ?_
  exact List.Pairwise.sublist List.filter_sublist List.pairwise_lt_range
end Tw
set_option Elab.async false
set_option linter.all false
set_option autoImplicit false
set_option maxRecDepth 100000
/-! LibTow: the program's strokes. -/
namespace Tw
open PySem (PyData)
def fn_is_boat : Fn := ⟨2, 2, [.ret (.conj [(.call false "is_count" [(.var 1)]), (.cmp .lt (.var 1) (.var 0))])]⟩
def fn_look_boat : Fn := ⟨2, 2, [.ife (.no (.call false "is_boat" [(.idx (.var 0) (.lit (.int 0))), (.var 1)])) [.rai "NoBoat" (.var 1)] []]⟩
def fn_towed : Fn := ⟨3, 7, [.expr (.call false "look_boat" [(.var 0), (.var 2)]), .asg (.tup [(.var 3), (.var 4)]) (.tup [(.lst true [(.var 2)]), (.lst true [(.var 2)])]), .whl (.cmp .gt (.bi false .len [(.var 4)]) (.lit (.int 0))) [.asg (.var 6) (.comp false (.var 5) (.var 5) (.pl (.idx (.var 0) (.lit (.int 1)))) [(.conj [(.cmp .isin (.idx (.var 5) (.lit (.int 0))) (.var 4)), (.cmp .eq (.idx (.var 1) (.idx (.var 5) (.lit (.int 1)))) (.bin false .sub (.idx (.var 1) (.idx (.var 5) (.lit (.int 0)))) (.idx (.var 5) (.lit (.int 2)))))])] [5]), .asg (.var 4) (.scomp false (.idx (.var 5) (.lit (.int 1))) (.var 5) (.pl (.var 6)) [(.cmp .notin (.idx (.var 5) (.lit (.int 1))) (.var 3))] [5]), .expr (.bm .extend (.var 3) [(.var 4)])], .ret (.bi true .sorted [(.var 3)])]⟩
def fn_stroked : Fn := ⟨3, 6, [.asg (.var 3) (.call false "towed" [(.var 0), (.var 1), (.var 2)]), .ret (.bi true .tuple [(.comp false (.ite (.cmp .isin (.var 4) (.var 3)) (.bin false .add (.var 5) (.lit (.int 1))) (.var 5)) (.tup [(.var 4), (.var 5)]) (.enum (.var 1)) [] [4, 5])])]⟩
def fn_rowed : Fn := ⟨3, 5, [.asg (.var 3) (.bi true .tuple [(.var 1)]), .forr (.var 4) (.pl (.var 2)) [.asg (.var 3) (.call true "stroked" [(.var 0), (.var 3), (.var 4)])], .ret (.var 3)]⟩
section
variable {P : Pg} {F : Sea} {s : Hs} {b c : Bool} {f : Mk} {v : VV}
theorem boat_ok (hN : P "is_number" = some fn_is_number) (hC : P "is_count" = some fn_is_count) (hB : P "is_boat" = some fn_is_boat) (n : Nat) (m i : Int) : callF P (n + 3) false "is_boat" [.int m, .int i] s = .ok (.bl (decide (0 ≤ i) && decide (i < m))) s := by
  rw [callF_run hB rfl]
  have e := count_ok (s := s) hN hC n i
  by_cases h : 0 ≤ i
  · simp only [h, decide_true] at e
    simp only [fn_is_boat, r_bind, r_assoc, r_lift, r_noX, r_var, r_lit, r_vvn, r_vvb, r_vvi, r_vvs, r_bin, r_neg, r_no, r_conj, r_disj, r_cmp, r_chain, r_ite, r_tup, r_lst, r_idx, r_sl, r_call, r_callk, r_bi, r_bm, r_comp, r_nil, r_cons, r_and1, r_and, r_or1, r_or, r_c0, r_c1, r_range, r_zip, r_enum, r_pl, r_s0, r_s, r_tnx, r_trt, r_tbk, r_tct, r_txc, r_cat, r_asg, r_sub, r_aug, r_expr, r_ret, r_ife, r_for, r_asgv, r_asgt, r_asgl, r_asg0, r_asgc, r_mapS, r_get0, r_gets, r_set0, r_sets, r_wip0, r_wip, r_trb, r_tri, r_ii, r_add, r_subi, r_gIdx, r_dcomp, r_scomp, r_sqt, r_sql, r_sqr, r_gCmp, r_lt, r_gt, r_le, r_ge, r_eqi, r_nei, r_isN, r_isI, r_inN, r_inI, r_neg', r_at0, r_at1, r_at2, r_ort, r_onx, r_lenl, r_lent, r_lenr, r_abs, r_intb, r_inti, r_max2, r_min2, r_tupt, r_tupl, r_tupr, r_listt, r_listl, r_listr, r_p6, r_p9, r_p11, r_p18, r_mkT0, r_mkF0, r_mkM0, r_mkT1, r_mkF1, r_mkM1, r_mkT2, r_mkF2, r_mkM2, r_mkT3, r_mkF3, r_mkM3, r_mkT4, r_mkF4, r_mkM4, r_mkT5, r_mkF5, r_mkM5, r_fld, r_gfld, r_isx, r_isxE, r_isxN, r_bcnt, r_catX, r_rai, r_tryk, r_tryN, r_tryR, r_tryX, r_oxc, r_bindX, sq_t, sq_f, q_seq, q_src, q_len, q_tup, q_list, q_asg, q_pur, q_srt, q_srl, optV_n, optV_s, r_isiI, r_isiT, r_isiL, isTy_ii, isTy_ib, isTy_il, isTy_it, isTy_tt, isTy_tl, isTy_ll, any_n, any_c, r_eqs, r_nes, r_repr, r_addT, List.map_cons, List.map_nil, List.replicate, List.cons_append, List.nil_append, Nat.reduceSub, e, if_true, h, decide_true, Bool.true_and]
    exact fin_same rfl
  · simp only [h, decide_false] at e
    simp only [fn_is_boat, r_bind, r_assoc, r_lift, r_noX, r_var, r_lit, r_vvn, r_vvb, r_vvi, r_vvs, r_bin, r_neg, r_no, r_conj, r_disj, r_cmp, r_chain, r_ite, r_tup, r_lst, r_idx, r_sl, r_call, r_callk, r_bi, r_bm, r_comp, r_nil, r_cons, r_and1, r_and, r_or1, r_or, r_c0, r_c1, r_range, r_zip, r_enum, r_pl, r_s0, r_s, r_tnx, r_trt, r_tbk, r_tct, r_txc, r_cat, r_asg, r_sub, r_aug, r_expr, r_ret, r_ife, r_for, r_asgv, r_asgt, r_asgl, r_asg0, r_asgc, r_mapS, r_get0, r_gets, r_set0, r_sets, r_wip0, r_wip, r_trb, r_tri, r_ii, r_add, r_subi, r_gIdx, r_dcomp, r_scomp, r_sqt, r_sql, r_sqr, r_gCmp, r_lt, r_gt, r_le, r_ge, r_eqi, r_nei, r_isN, r_isI, r_inN, r_inI, r_neg', r_at0, r_at1, r_at2, r_ort, r_onx, r_lenl, r_lent, r_lenr, r_abs, r_intb, r_inti, r_max2, r_min2, r_tupt, r_tupl, r_tupr, r_listt, r_listl, r_listr, r_p6, r_p9, r_p11, r_p18, r_mkT0, r_mkF0, r_mkM0, r_mkT1, r_mkF1, r_mkM1, r_mkT2, r_mkF2, r_mkM2, r_mkT3, r_mkF3, r_mkM3, r_mkT4, r_mkF4, r_mkM4, r_mkT5, r_mkF5, r_mkM5, r_fld, r_gfld, r_isx, r_isxE, r_isxN, r_bcnt, r_catX, r_rai, r_tryk, r_tryN, r_tryR, r_tryX, r_oxc, r_bindX, sq_t, sq_f, q_seq, q_src, q_len, q_tup, q_list, q_asg, q_pur, q_srt, q_srl, optV_n, optV_s, r_isiI, r_isiT, r_isiL, isTy_ii, isTy_ib, isTy_il, isTy_it, isTy_tt, isTy_tl, isTy_ll, any_n, any_c, r_eqs, r_nes, r_repr, r_addT, List.map_cons, List.map_nil, List.replicate, List.cons_append, List.nil_append, Nat.reduceSub, e, if_false, Bool.false_eq_true, h, decide_false, Bool.false_and]
    exact fin_same rfl
theorem lookb_ok (hN : P "is_number" = some fn_is_number) (hC : P "is_count" = some fn_is_count) (hB : P "is_boat" = some fn_is_boat) (hL : P "look_boat" = some fn_look_boat) (n : Nat) {r : Nat} (hr : r < F.n) : callF P (n + 4) false "look_boat" [seaV b F, .int r] s = .ok .non s := by
  rw [callF_run hL rfl]
  have e := boat_ok (s := s) hN hC hB n (F.n : Int) (r : Int)
  have e1 : (decide ((0 : Int) ≤ (r : Int)) && decide ((r : Int) < (F.n : Int))) = true := by
    simp only [Bool.and_eq_true, decide_eq_true_eq]
    omega
  rw [e1] at e
  have sv : seqOf s (seaV b F) = some [.int F.n, sq b (F.ropes.map (ropeV b))] := q_seq
  simp only [fn_look_boat, r_bind, r_assoc, r_lift, r_noX, r_var, r_lit, r_vvn, r_vvb, r_vvi, r_vvs, r_bin, r_neg, r_no, r_conj, r_disj, r_cmp, r_chain, r_ite, r_tup, r_lst, r_idx, r_sl, r_call, r_callk, r_bi, r_bm, r_comp, r_nil, r_cons, r_and1, r_and, r_or1, r_or, r_c0, r_c1, r_range, r_zip, r_enum, r_pl, r_s0, r_s, r_tnx, r_trt, r_tbk, r_tct, r_txc, r_cat, r_asg, r_sub, r_aug, r_expr, r_ret, r_ife, r_for, r_asgv, r_asgt, r_asgl, r_asg0, r_asgc, r_mapS, r_get0, r_gets, r_set0, r_sets, r_wip0, r_wip, r_trb, r_tri, r_ii, r_add, r_subi, r_gIdx, r_dcomp, r_scomp, r_sqt, r_sql, r_sqr, r_gCmp, r_lt, r_gt, r_le, r_ge, r_eqi, r_nei, r_isN, r_isI, r_inN, r_inI, r_neg', r_at0, r_at1, r_at2, r_ort, r_onx, r_lenl, r_lent, r_lenr, r_abs, r_intb, r_inti, r_max2, r_min2, r_tupt, r_tupl, r_tupr, r_listt, r_listl, r_listr, r_p6, r_p9, r_p11, r_p18, r_mkT0, r_mkF0, r_mkM0, r_mkT1, r_mkF1, r_mkM1, r_mkT2, r_mkF2, r_mkM2, r_mkT3, r_mkF3, r_mkM3, r_mkT4, r_mkF4, r_mkM4, r_mkT5, r_mkF5, r_mkM5, r_fld, r_gfld, r_isx, r_isxE, r_isxN, r_bcnt, r_catX, r_rai, r_tryk, r_tryN, r_tryR, r_tryX, r_oxc, r_bindX, sq_t, sq_f, q_seq, q_src, q_len, q_tup, q_list, q_asg, q_pur, q_srt, q_srl, optV_n, optV_s, r_isiI, r_isiT, r_isiL, isTy_ii, isTy_ib, isTy_il, isTy_it, isTy_tt, isTy_tl, isTy_ll, any_n, any_c, r_eqs, r_nes, r_repr, r_addT, List.map_cons, List.map_nil, List.replicate, List.cons_append, List.nil_append, Nat.reduceSub, sv, e, Bool.not_true, if_false, Bool.false_eq_true]
  exact fin_same rfl
/-- an int among ints -/
theorem any_int (x : Int) : ∀ l : List Int, ((l.map PyData.int).any fun z => PyData.eqv z (.int x)) = decide (x ∈ l)
  | [] => by simp
  | y :: l => by
    rw [List.map_cons, List.any_cons, any_int x l, eqv_ii]
    rw [Bool.eq_iff_iff]
    simp only [Bool.or_eq_true, decide_eq_true_eq, List.mem_cons]
    constructor
    · rintro (h | h)
      · exact .inl h.symm
      · exact .inr h
    · rintro (h | h)
      · exact .inl h.symm
      · exact .inr h
theorem in_ints {x : Int} {l : List Int} (hv : seqOf s v = some (l.map .int)) : cmpV s .isin (.int x) v = some (decide (x ∈ l)) := by
  show inV s (.int x) v = _
  unfold inV
  rw [hv]
  dsimp only
  have e1 : mapO (toD (dpt - 1) s) (l.map VV.int) = some (l.map PyData.int) := mapO_to fun a _ => toD_int _ a
  rw [e1]
  show some _ = _
  rw [any_int]
theorem notin_ints {x : Int} {l : List Int} (hv : seqOf s v = some (l.map .int)) : cmpV s .notin (.int x) v = some (!decide (x ∈ l)) := by
  have := in_ints (x := x) hv
  show (inV s (.int x) v).map _ = _
  rw [show inV s (.int x) v = some (decide (x ∈ l)) from this]
  rfl
/-- the taut lines from fresh ones -/
def tautsOf (F : Sea) (f : Mk) (fresh : List Int) : List Rope := F.ropes.filter fun q => decide ((q.1 : Int) ∈ fresh) && taut f q
/-- whom they reach, not yet found, rising -/
def nextOf (F : Sea) (f : Mk) (found fresh : List Int) : List Int := sortS (((tautsOf F f fresh).filter fun q => !decide ((q.2.1 : Int) ∈ found)).map fun q => (q.2.1 : Int))
structure Reach (F : Sea) (f : Mk) (r : Nat) (found fresh : List Int) : Prop where
  nd : found.Nodup
  inn : ∀ x ∈ found, ∃ j, x = ((j : Nat) : Int) ∧ j ∈ tows F f r
  self : (r : Int) ∈ found
  sub : ∀ x ∈ fresh, x ∈ found
  done : ∀ q ∈ F.ropes, (q.1 : Int) ∈ found → (q.1 : Int) ∉ fresh → f q.2.1 = f q.1 - q.2.2 → (q.2.1 : Int) ∈ found
theorem next_mem {found fresh : List Int} {x : Int} : x ∈ nextOf F f found fresh ↔ ∃ q ∈ F.ropes, (q.1 : Int) ∈ fresh ∧ f q.2.1 = f q.1 - q.2.2 ∧ (q.2.1 : Int) ∉ found ∧ x = q.2.1 := by
  unfold nextOf tautsOf taut
  rw [sortS_mem, List.mem_map]
  constructor
  · rintro ⟨q, hq, rfl⟩
    simp only [List.mem_filter, Bool.and_eq_true, decide_eq_true_eq, Bool.not_eq_true', decide_eq_false_iff_not] at hq
    exact ⟨q, hq.1.1, hq.1.2.1, hq.1.2.2, hq.2, rfl⟩
  · rintro ⟨q, h1, h2, h3, h4, rfl⟩
    refine ⟨q, ?_, rfl⟩
    simp only [List.mem_filter, Bool.and_eq_true, decide_eq_true_eq, Bool.not_eq_true', decide_eq_false_iff_not]
    exact ⟨⟨h1, h2, h3⟩, h4⟩
theorem strict_nodup : ∀ {l : List Int}, l.Pairwise (· < ·) → l.Nodup := fun {l} h => h.imp fun {a b} h => by omega
theorem Reach.next (ok : F.Ok) (st : Stand F f) {r : Nat} (hr : r < F.n) {found fresh : List Int} (h : Reach F f r found fresh) : Reach F f r (found ++ nextOf F f found fresh) (nextOf F f found fresh) := by
  refine ⟨?_, fun x hx => ?_, List.mem_append_left _ h.self, fun x hx => List.mem_append_right _ hx, fun q hq h1 h2 h3 => ?_⟩
  · rw [List.nodup_append]
    refine ⟨h.nd, strict_nodup sortS_sorted, fun a ha c hc e => ?_⟩
    subst e
    obtain ⟨q, _, _, _, h4, rfl⟩ := next_mem.mp hc
    exact h4 ha
  · rcases List.mem_append.mp hx with hx | hx
    · exact h.inn x hx
    · obtain ⟨q, h1, h2, h3, h4, rfl⟩ := next_mem.mp hx
      obtain ⟨j, hj, hm⟩ := h.inn _ (h.sub _ h2)
      have : q.1 = j := by omega
      subst this
      exact ⟨q.2.1, rfl, tows_step ok st hr h1 hm h3⟩
  · rcases List.mem_append.mp h1 with h1 | h1
    · by_cases hf : (q.1 : Int) ∈ fresh
      · by_cases hg : (q.2.1 : Int) ∈ found
        · exact List.mem_append_left _ hg
        · exact List.mem_append_right _ (next_mem.mpr ⟨q, hq, hf, h3, hg, rfl⟩)
      · exact List.mem_append_left _ (h.done q hq h1 hf h3)
    · exact absurd h1 h2
theorem Reach.len (ok : F.Ok) {r : Nat} {found fresh : List Int} (h : Reach F f r found fresh) : found.length ≤ F.n := few_len h.nd fun x hx => by
  obtain ⟨j, rfl, hm⟩ := h.inn x hx
  have := (tows_mem.mp hm).1
  omega
theorem Reach.whole (ok : F.Ok) (st : Stand F f) {r : Nat} (hr : r < F.n) {found : List Int} (h : Reach F f r found []) : sortI found = (tows F f r).map fun (j : Nat) => (j : Int) := by
  rw [sortI_sortS h.nd]
  refine sortedS_uniq sortS_sorted tows_sorted fun x => ?_
  rw [sortS_mem, List.mem_map]
  constructor
  · intro hx
    obtain ⟨j, rfl, hm⟩ := h.inn x hx
    exact ⟨j, hm, rfl⟩
  · rintro ⟨j, hm, rfl⟩
    exact tows_in ok st hr (fun i => (i : Int) ∈ found) h.self (fun q hq h1 h2 => h.done q hq h1 (by simp) h2) hm
def whC : Ex := (.cmp .gt (.bi false .len [(.var 4)]) (.lit (.int 0)))
def whS : List Stm := [.asg (.var 6) (.comp false (.var 5) (.var 5) (.pl (.idx (.var 0) (.lit (.int 1)))) [(.conj [(.cmp .isin (.idx (.var 5) (.lit (.int 0))) (.var 4)), (.cmp .eq (.idx (.var 1) (.idx (.var 5) (.lit (.int 1)))) (.bin false .sub (.idx (.var 1) (.idx (.var 5) (.lit (.int 0)))) (.idx (.var 5) (.lit (.int 2)))))])] [5]), .asg (.var 4) (.scomp false (.idx (.var 5) (.lit (.int 1))) (.var 5) (.pl (.var 6)) [(.cmp .notin (.idx (.var 5) (.lit (.int 1))) (.var 3))] [5]), .expr (.bm .extend (.var 3) [(.var 4)])]
theorem len_v {S : Hs} {xs : List VV} (hv : seqOf S v = some xs) (hs : ∀ z, v ≠ .str z) : biV false .len [v] S = .ok (.int xs.length) S := by
  cases v <;> first | (exact absurd rfl (hs _)) | (cases hv; rfl) | (show lift ((seqOf S (VV.ref _)).map fun xs => VV.int xs.length) S = _; rw [hv]; rfl) | (exact absurd hv (by simp [seqOf]))
theorem towed_c (ok : F.Ok) (st : Stand F f) {cl : Cl} (sv : VV) {r : Nat} (hr : r < F.n) (hsv : ∀ S, seqOf S sv = some (mks F.n f)) (o : Ob) : ∀ (fuel : Nat) (found fresh : List Int) (fv : VV) (o5 o6 : Option VV), Reach F f r found fresh → (∀ S, seqOf (s ++ [.lst (S : List VV), o]) fv = some (fresh.map .int)) → (∀ z, fv ≠ .str z) → F.n - found.length + (if fresh = [] then 0 else 1) < fuel →
    ∃ found' p4 p5 p6, whileL (whT cl whC) (whB cl whS) fuel [some (seaV b F), some sv, some (.int r), some (.ref s.length), some fv, o5, o6] (s ++ [.lst (found.map .int), o]) = .ok (.nx [some (seaV b F), some sv, some (.int r), some (.ref s.length), p4, p5, p6]) (s ++ [.lst (found'.map .int), o]) ∧ Reach F f r found' []
  | 0, _, _, _, _, _, _, _, _, h => by omega
  | fuel + 1, found, fresh, fv, o5, o6, hR, hfv, hstr, hm => by
    rw [whl_red]
    have ln := len_v (hfv (found.map .int)) hstr
    rw [List.length_map] at ln
    by_cases hf : fresh = []
    · subst hf
      refine ⟨found, some fv, o5, o6, ?_, hR⟩
      simp only [whT_ap, whC, r_bind, r_assoc, r_lift, r_noX, r_var, r_lit, r_vvn, r_vvb, r_vvi, r_vvs, r_bin, r_neg, r_no, r_conj, r_disj, r_cmp, r_chain, r_ite, r_tup, r_lst, r_idx, r_sl, r_call, r_callk, r_bi, r_bm, r_comp, r_nil, r_cons, r_and1, r_and, r_or1, r_or, r_c0, r_c1, r_range, r_zip, r_enum, r_pl, r_s0, r_s, r_tnx, r_trt, r_tbk, r_tct, r_txc, r_cat, r_asg, r_sub, r_aug, r_expr, r_ret, r_ife, r_for, r_asgv, r_asgt, r_asgl, r_asg0, r_asgc, r_mapS, r_get0, r_gets, r_set0, r_sets, r_wip0, r_wip, r_trb, r_tri, r_ii, r_add, r_subi, r_gIdx, r_dcomp, r_scomp, r_sqt, r_sql, r_sqr, r_gCmp, r_lt, r_gt, r_le, r_ge, r_eqi, r_nei, r_isN, r_isI, r_inN, r_inI, r_neg', r_at0, r_at1, r_at2, r_ort, r_onx, r_lenl, r_lent, r_lenr, r_abs, r_intb, r_inti, r_max2, r_min2, r_tupt, r_tupl, r_tupr, r_listt, r_listl, r_listr, r_p6, r_p9, r_p11, r_p18, r_mkT0, r_mkF0, r_mkM0, r_mkT1, r_mkF1, r_mkM1, r_mkT2, r_mkF2, r_mkM2, r_mkT3, r_mkF3, r_mkM3, r_mkT4, r_mkF4, r_mkM4, r_mkT5, r_mkF5, r_mkM5, r_fld, r_gfld, r_isx, r_isxE, r_isxN, r_bcnt, r_catX, r_rai, r_tryk, r_tryN, r_tryR, r_tryX, r_oxc, r_bindX, sq_t, sq_f, q_seq, q_src, q_len, q_tup, q_list, q_asg, q_pur, q_srt, q_srl, optV_n, optV_s, r_isiI, r_isiT, r_isiL, isTy_ii, isTy_ib, isTy_il, isTy_it, isTy_tt, isTy_tl, isTy_ll, any_n, any_c, r_eqs, r_nes, r_repr, r_addT, ln, List.length_nil]
      rfl
    · have l0 : (0 : Int) < (fresh.length : Int) := by
        have := List.length_pos_iff.mpr hf
        omega
      have sF : ∀ S, seqOf S (seaV b F) = some [.int F.n, sq b (F.ropes.map (ropeV b))] := fun S => q_seq
      have kd : kid (s ++ [.lst (found.map VV.int), o]) s.length = some (found.map .int) := kid_of (by rw [List.getElem?_append_right (Nat.le_refl _)]; simp)
      have c1 : compL [] (stepC cl (.var 5) (.var 5) [(.conj [(.cmp .isin (.idx (.var 5) (.lit (.int 0))) (.var 4)), (.cmp .eq (.idx (.var 1) (.idx (.var 5) (.lit (.int 1)))) (.bin false .sub (.idx (.var 1) (.idx (.var 5) (.lit (.int 0)))) (.idx (.var 5) (.lit (.int 2)))))])] [5] [some (seaV b F), some sv, some (.int r), some (.ref s.length), some fv, o5, o6])
          (F.ropes.map (ropeV b)) (s ++ [.lst (found.map .int), o]) = .ok ((tautsOf F f fresh).map (ropeV b)) (s ++ [.lst (found.map .int), o]) := compL_fm rfl fun q hq => by
        have l1 := ok.lt1 q hq
        have l2 := ok.lt2 q hq
        have i1 := in_ints (x := (q.1 : Int)) (hfv (found.map .int))
        have a1 : atV (mks F.n f) (q.1 : Int) = some (.int (f q.1)) := at_rng l1 _
        have a2 : atV (mks F.n f) (q.2.1 : Int) = some (.int (f q.2.1)) := at_rng l2 _
        by_cases h1 : (q.1 : Int) ∈ fresh
        · simp only [h1, decide_true] at i1
          simp only [stepC, ropeV, r_bind, r_assoc, r_lift, r_noX, r_var, r_lit, r_vvn, r_vvb, r_vvi, r_vvs, r_bin, r_neg, r_no, r_conj, r_disj, r_cmp, r_chain, r_ite, r_tup, r_lst, r_idx, r_sl, r_call, r_callk, r_bi, r_bm, r_comp, r_nil, r_cons, r_and1, r_and, r_or1, r_or, r_c0, r_c1, r_range, r_zip, r_enum, r_pl, r_s0, r_s, r_tnx, r_trt, r_tbk, r_tct, r_txc, r_cat, r_asg, r_sub, r_aug, r_expr, r_ret, r_ife, r_for, r_asgv, r_asgt, r_asgl, r_asg0, r_asgc, r_mapS, r_get0, r_gets, r_set0, r_sets, r_wip0, r_wip, r_trb, r_tri, r_ii, r_add, r_subi, r_gIdx, r_dcomp, r_scomp, r_sqt, r_sql, r_sqr, r_gCmp, r_lt, r_gt, r_le, r_ge, r_eqi, r_nei, r_isN, r_isI, r_inN, r_inI, r_neg', r_at0, r_at1, r_at2, r_ort, r_onx, r_lenl, r_lent, r_lenr, r_abs, r_intb, r_inti, r_max2, r_min2, r_tupt, r_tupl, r_tupr, r_listt, r_listl, r_listr, r_p6, r_p9, r_p11, r_p18, r_mkT0, r_mkF0, r_mkM0, r_mkT1, r_mkF1, r_mkM1, r_mkT2, r_mkF2, r_mkM2, r_mkT3, r_mkF3, r_mkM3, r_mkT4, r_mkF4, r_mkM4, r_mkT5, r_mkF5, r_mkM5, r_fld, r_gfld, r_isx, r_isxE, r_isxN, r_bcnt, r_catX, r_rai, r_tryk, r_tryN, r_tryR, r_tryX, r_oxc, r_bindX, sq_t, sq_f, q_seq, q_src, q_len, q_tup, q_list, q_asg, q_pur, q_srt, q_srl, optV_n, optV_s, r_isiI, r_isiT, r_isiL, isTy_ii, isTy_ib, isTy_il, isTy_it, isTy_tt, isTy_tl, isTy_ll, any_n, any_c, r_eqs, r_nes, r_repr, r_addT, i1, if_true, hsv, a1, a2, h1, decide_true, Bool.true_and, taut]
          cases decide (f q.2.1 = f q.1 - q.2.2) <;> rfl
        · simp only [h1, decide_false] at i1
          simp only [stepC, ropeV, r_bind, r_assoc, r_lift, r_noX, r_var, r_lit, r_vvn, r_vvb, r_vvi, r_vvs, r_bin, r_neg, r_no, r_conj, r_disj, r_cmp, r_chain, r_ite, r_tup, r_lst, r_idx, r_sl, r_call, r_callk, r_bi, r_bm, r_comp, r_nil, r_cons, r_and1, r_and, r_or1, r_or, r_c0, r_c1, r_range, r_zip, r_enum, r_pl, r_s0, r_s, r_tnx, r_trt, r_tbk, r_tct, r_txc, r_cat, r_asg, r_sub, r_aug, r_expr, r_ret, r_ife, r_for, r_asgv, r_asgt, r_asgl, r_asg0, r_asgc, r_mapS, r_get0, r_gets, r_set0, r_sets, r_wip0, r_wip, r_trb, r_tri, r_ii, r_add, r_subi, r_gIdx, r_dcomp, r_scomp, r_sqt, r_sql, r_sqr, r_gCmp, r_lt, r_gt, r_le, r_ge, r_eqi, r_nei, r_isN, r_isI, r_inN, r_inI, r_neg', r_at0, r_at1, r_at2, r_ort, r_onx, r_lenl, r_lent, r_lenr, r_abs, r_intb, r_inti, r_max2, r_min2, r_tupt, r_tupl, r_tupr, r_listt, r_listl, r_listr, r_p6, r_p9, r_p11, r_p18, r_mkT0, r_mkF0, r_mkM0, r_mkT1, r_mkF1, r_mkM1, r_mkT2, r_mkF2, r_mkM2, r_mkT3, r_mkF3, r_mkM3, r_mkT4, r_mkF4, r_mkM4, r_mkT5, r_mkF5, r_mkM5, r_fld, r_gfld, r_isx, r_isxE, r_isxN, r_bcnt, r_catX, r_rai, r_tryk, r_tryN, r_tryR, r_tryX, r_oxc, r_bindX, sq_t, sq_f, q_seq, q_src, q_len, q_tup, q_list, q_asg, q_pur, q_srt, q_srl, optV_n, optV_s, r_isiI, r_isiT, r_isiL, isTy_ii, isTy_ib, isTy_il, isTy_it, isTy_tt, isTy_tl, isTy_ll, any_n, any_c, r_eqs, r_nes, r_repr, r_addT, i1, if_false, Bool.false_eq_true, h1, decide_false, Bool.false_and]
      have k1 : mkL false ((tautsOf F f fresh).map (ropeV b)) (s ++ [.lst (found.map .int), o]) = .ok (.lst ((tautsOf F f fresh).map (ropeV b))) (s ++ [.lst (found.map .int), o]) := mkL_f (by
        rw [List.length_map]
        have h1 := List.length_filter_le (fun q : Rope => decide ((q.1 : Int) ∈ fresh) && taut f q) F.ropes
        have h2 := ok.len
        exact sz_of (by unfold tautsOf; omega))
      have c2 : compL [] (stepC cl (.idx (.var 5) (.lit (.int 1))) (.var 5) [(.cmp .notin (.idx (.var 5) (.lit (.int 1))) (.var 3))] [5] [some (seaV b F), some sv, some (.int r), some (.ref s.length), some fv, o5, some (.lst ((tautsOf F f fresh).map (ropeV b)))])
          ((tautsOf F f fresh).map (ropeV b)) (s ++ [.lst (found.map .int), o]) = .ok (((tautsOf F f fresh).filter fun q => !decide ((q.2.1 : Int) ∈ found)).map fun q => VV.int q.2.1) (s ++ [.lst (found.map .int), o]) := compL_fm rfl fun q hq => by
        have i1 := notin_ints (x := (q.2.1 : Int)) (s := s ++ [.lst (found.map .int), o]) (v := .ref s.length) (l := found) kd
        simp only [stepC, ropeV, r_bind, r_assoc, r_lift, r_noX, r_var, r_lit, r_vvn, r_vvb, r_vvi, r_vvs, r_bin, r_neg, r_no, r_conj, r_disj, r_cmp, r_chain, r_ite, r_tup, r_lst, r_idx, r_sl, r_call, r_callk, r_bi, r_bm, r_comp, r_nil, r_cons, r_and1, r_and, r_or1, r_or, r_c0, r_c1, r_range, r_zip, r_enum, r_pl, r_s0, r_s, r_tnx, r_trt, r_tbk, r_tct, r_txc, r_cat, r_asg, r_sub, r_aug, r_expr, r_ret, r_ife, r_for, r_asgv, r_asgt, r_asgl, r_asg0, r_asgc, r_mapS, r_get0, r_gets, r_set0, r_sets, r_wip0, r_wip, r_trb, r_tri, r_ii, r_add, r_subi, r_gIdx, r_dcomp, r_scomp, r_sqt, r_sql, r_sqr, r_gCmp, r_lt, r_gt, r_le, r_ge, r_eqi, r_nei, r_isN, r_isI, r_inN, r_inI, r_neg', r_at0, r_at1, r_at2, r_ort, r_onx, r_lenl, r_lent, r_lenr, r_abs, r_intb, r_inti, r_max2, r_min2, r_tupt, r_tupl, r_tupr, r_listt, r_listl, r_listr, r_p6, r_p9, r_p11, r_p18, r_mkT0, r_mkF0, r_mkM0, r_mkT1, r_mkF1, r_mkM1, r_mkT2, r_mkF2, r_mkM2, r_mkT3, r_mkF3, r_mkM3, r_mkT4, r_mkF4, r_mkM4, r_mkT5, r_mkF5, r_mkM5, r_fld, r_gfld, r_isx, r_isxE, r_isxN, r_bcnt, r_catX, r_rai, r_tryk, r_tryN, r_tryR, r_tryX, r_oxc, r_bindX, sq_t, sq_f, q_seq, q_src, q_len, q_tup, q_list, q_asg, q_pur, q_srt, q_srl, optV_n, optV_s, r_isiI, r_isiT, r_isiL, isTy_ii, isTy_ib, isTy_il, isTy_it, isTy_tt, isTy_tl, isTy_ll, any_n, any_c, r_eqs, r_nes, r_repr, r_addT, i1]
        cases (!decide ((q.2.1 : Int) ∈ found)) <;> rfl
      have c3 : intsOf (((tautsOf F f fresh).filter fun q => !decide ((q.2.1 : Int) ∈ found)).map fun q => VV.int q.2.1) = some (((tautsOf F f fresh).filter fun q => !decide ((q.2.1 : Int) ∈ found)).map fun q => (q.2.1 : Int)) := ints_map
      have hR' := hR.next ok st hr
      have hl' := hR'.len ok
      rw [List.length_append] at hl'
      have few := ok.few
      have c4 : (sortS (((tautsOf F f fresh).filter fun q => !decide ((q.2.1 : Int) ∈ found)).map fun q => (q.2.1 : Int))).length < 64 := by
        show (nextOf F f found fresh).length < 64
        have := hR.self
        have : 0 < found.length := List.length_pos_iff.mpr fun e => by rw [e] at this; simp at this
        omega
      have k2 : mkL false ((nextOf F f found fresh).map VV.int) (s ++ [.lst (found.map .int), o]) = .ok (.lst ((nextOf F f found fresh).map .int)) (s ++ [.lst (found.map .int), o]) := mkL_f (by rw [List.length_map]; exact sz_of (by omega))
      have ex : bmV .extend (.ref s.length) [VV.lst ((nextOf F f found fresh).map VV.int)] (s ++ [Ob.lst (found.map VV.int), o]) = Out.ok VV.non (s ++ [Ob.lst ((found ++ nextOf F f found fresh).map .int), o]) := by
        show (match kid (s ++ [Ob.lst (found.map VV.int), o]) s.length, lstOf (s ++ [Ob.lst (found.map VV.int), o]) (VV.lst ((nextOf F f found fresh).map VV.int)) with
          | some xs, some ys => if xs.length + ys.length ≤ szL then Out.ok VV.non ((s ++ [Ob.lst (found.map VV.int), o]).set s.length (Ob.lst (xs ++ ys))) else Out.bad
          | _, _ => Out.bad) = _
        rw [kd]
        show (if (found.map VV.int).length + ((nextOf F f found fresh).map VV.int).length ≤ szL then Out.ok VV.non ((s ++ [Ob.lst (found.map VV.int), o]).set s.length (Ob.lst (found.map VV.int ++ (nextOf F f found fresh).map VV.int))) else Out.bad) = _
        rw [if_pos (by rw [List.length_map, List.length_map]; exact sz_of (by omega)), List.set_append_right _ _ (Nat.le_refl _), ← List.map_append]
        simp
      have ty : bmTy .extend (.ref s.length) (s ++ [Ob.lst (found.map VV.int), o]) = some () := by
        show (kid (s ++ [Ob.lst (found.map VV.int), o]) s.length).map _ = _
        rw [kd]
        rfl
      obtain ⟨found', p4, p5, p6, e9, hR9⟩ := towed_c ok st sv hr hsv o fuel (found ++ nextOf F f found fresh) (nextOf F f found fresh) (.lst ((nextOf F f found fresh).map .int)) o5 (some (.lst ((tautsOf F f fresh).map (ropeV b)))) hR' (fun S => rfl) (by intro z h; cases h) (by
        rw [List.length_append]
        rw [if_neg hf] at hm
        by_cases hn : nextOf F f found fresh = []
        · rw [if_pos hn, hn]
          simp
          omega
        · rw [if_neg hn]
          have := List.length_pos_iff.mpr hn
          omega)
      refine ⟨found', p4, p5, p6, ?_, hR9⟩
      have c5 : (nextOf F f found fresh).length < 64 := c4
      have sc : sortS (((tautsOf F f fresh).filter fun q => !decide ((q.2.1 : Int) ∈ found)).map fun q => (q.2.1 : Int)) = nextOf F f found fresh := rfl
      simp only [whT_ap, whB_ap, whC, r_bind, r_assoc, r_lift, r_noX, r_var, r_lit, r_vvn, r_vvb, r_vvi, r_vvs, r_bin, r_neg, r_no, r_conj, r_disj, r_cmp, r_chain, r_ite, r_tup, r_lst, r_idx, r_sl, r_call, r_callk, r_bi, r_bm, r_comp, r_nil, r_cons, r_and1, r_and, r_or1, r_or, r_c0, r_c1, r_range, r_zip, r_enum, r_pl, r_s0, r_s, r_tnx, r_trt, r_tbk, r_tct, r_txc, r_cat, r_asg, r_sub, r_aug, r_expr, r_ret, r_ife, r_for, r_asgv, r_asgt, r_asgl, r_asg0, r_asgc, r_mapS, r_get0, r_gets, r_set0, r_sets, r_wip0, r_wip, r_trb, r_tri, r_ii, r_add, r_subi, r_gIdx, r_dcomp, r_scomp, r_sqt, r_sql, r_sqr, r_gCmp, r_lt, r_gt, r_le, r_ge, r_eqi, r_nei, r_isN, r_isI, r_inN, r_inI, r_neg', r_at0, r_at1, r_at2, r_ort, r_onx, r_lenl, r_lent, r_lenr, r_abs, r_intb, r_inti, r_max2, r_min2, r_tupt, r_tupl, r_tupr, r_listt, r_listl, r_listr, r_p6, r_p9, r_p11, r_p18, r_mkT0, r_mkF0, r_mkM0, r_mkT1, r_mkF1, r_mkM1, r_mkT2, r_mkF2, r_mkM2, r_mkT3, r_mkF3, r_mkM3, r_mkT4, r_mkF4, r_mkM4, r_mkT5, r_mkF5, r_mkM5, r_fld, r_gfld, r_isx, r_isxE, r_isxN, r_bcnt, r_catX, r_rai, r_tryk, r_tryN, r_tryR, r_tryX, r_oxc, r_bindX, sq_t, sq_f, q_seq, q_src, q_len, q_tup, q_list, q_asg, q_pur, q_srt, q_srl, optV_n, optV_s, r_isiI, r_isiT, r_isiL, isTy_ii, isTy_ib, isTy_il, isTy_it, isTy_tt, isTy_tl, isTy_ll, any_n, any_c, r_eqs, r_nes, r_repr, r_addT, ln, l0, decide_true, if_true]
      simp only [whS, r_bind, r_assoc, r_lift, r_noX, r_var, r_lit, r_vvn, r_vvb, r_vvi, r_vvs, r_bin, r_neg, r_no, r_conj, r_disj, r_cmp, r_chain, r_ite, r_tup, r_lst, r_idx, r_sl, r_call, r_callk, r_bi, r_bm, r_comp, r_nil, r_cons, r_and1, r_and, r_or1, r_or, r_c0, r_c1, r_range, r_zip, r_enum, r_pl, r_s0, r_s, r_tnx, r_trt, r_tbk, r_tct, r_txc, r_cat, r_asg, r_sub, r_aug, r_expr, r_ret, r_ife, r_for, r_asgv, r_asgt, r_asgl, r_asg0, r_asgc, r_mapS, r_get0, r_gets, r_set0, r_sets, r_wip0, r_wip, r_trb, r_tri, r_ii, r_add, r_subi, r_gIdx, r_dcomp, r_scomp, r_sqt, r_sql, r_sqr, r_gCmp, r_lt, r_gt, r_le, r_ge, r_eqi, r_nei, r_isN, r_isI, r_inN, r_inI, r_neg', r_at0, r_at1, r_at2, r_ort, r_onx, r_lenl, r_lent, r_lenr, r_abs, r_intb, r_inti, r_max2, r_min2, r_tupt, r_tupl, r_tupr, r_listt, r_listl, r_listr, r_p6, r_p9, r_p11, r_p18, r_mkT0, r_mkF0, r_mkM0, r_mkT1, r_mkF1, r_mkM1, r_mkT2, r_mkF2, r_mkM2, r_mkT3, r_mkF3, r_mkM3, r_mkT4, r_mkF4, r_mkM4, r_mkT5, r_mkF5, r_mkM5, r_fld, r_gfld, r_isx, r_isxE, r_isxN, r_bcnt, r_catX, r_rai, r_tryk, r_tryN, r_tryR, r_tryX, r_oxc, r_bindX, sq_t, sq_f, q_seq, q_src, q_len, q_tup, q_list, q_asg, q_pur, q_srt, q_srl, optV_n, optV_s, r_isiI, r_isiT, r_isiL, isTy_ii, isTy_ib, isTy_il, isTy_it, isTy_tt, isTy_tl, isTy_ll, any_n, any_c, r_eqs, r_nes, r_repr, r_addT, sF, c1, k1, c2, c3, sc, c5, if_true, k2, ty, ex, whK_nx]
      unfold whS whC at e9
      rw [e9]
      rfl
structure HasTow (P : Pg) : Prop where
  number : P "is_number" = some fn_is_number
  count : P "is_count" = some fn_is_count
  boat : P "is_boat" = some fn_is_boat
  look : P "look_boat" = some fn_look_boat
  towed : P "towed" = some fn_towed
  stroked : P "stroked" = some fn_stroked
  rowed : P "rowed" = some fn_rowed
theorem fin_newG {s g : Hs} {xs : List VV} (h : purs xs = true) : fin false s (.ref (s.length + g.length)) (s ++ (g ++ [.lst xs])) = .ok (.lst xs) s := by
  have k : (s ++ (g ++ [Ob.lst xs]))[s.length + g.length]? = some (.lst xs) := by
    rw [List.getElem?_append_right (by omega)]
    simp
  have := mapO_map (f := frz 5 s.length (s ++ (g ++ [Ob.lst xs]))) (φ := id) (ψ := id) (l := xs) fun a ha => frz_all 5 a (purs_all.mp h a ha)
  rw [List.map_id] at this
  exact fin_frz rfl (frz_ref (by omega) k this)
abbrev towsL (F : Sea) (f : Mk) (r : Nat) : List VV := (tows F f r).map fun (j : Nat) => VV.int j
def towsV (F : Sea) (f : Mk) (r : Nat) : VV := .lst ((tows F f r).map fun (j : Nat) => VV.int j)
theorem towed_e (hP : HasTow P) (ok : F.Ok) (st : Stand F f) {r : Nat} (hr : r < F.n) (sv : VV) (hsv : ∀ S, seqOf S sv = some (mks F.n f)) (n : Nat) : ∃ g : Hs, g.length = 2 ∧ exs (callF P (n + 4)) fn_towed.body [some (seaV b F), some sv, some (.int r), none, none, none, none] s = .ok (.rt (.ref (s.length + g.length))) (s ++ (g ++ [.lst (towsL F f r)])) := by
  have lb := lookb_ok (s := s) (b := b) hP.number hP.count hP.boat hP.look n hr
  have hR : Reach F f r [(r : Int)] [(r : Int)] := ⟨by simp, fun x hx => ⟨r, List.mem_singleton.mp hx, tows_self ok hr⟩, by simp, fun x hx => hx, fun q hq h1 h2 _ => absurd h1 h2⟩
  have few := ok.few
  obtain ⟨found, p4, p5, p6, e, hR'⟩ := towed_c (s := s) (b := b) (cl := callF P (n + 4)) ok st sv hr hsv (.lst [.int r]) wfuel [(r : Int)] [(r : Int)] (.ref (s.length + 1)) none none hR (fun S => by
    show kid (s ++ [Ob.lst S, .lst [.int r]]) (s.length + 1) = _
    refine kid_of ?_
    rw [List.getElem?_append_right (by omega), Nat.add_sub_cancel_left]
    rfl) (by intro z h; cases h) (by
    rw [if_neg (by simp)]
    unfold wfuel
    have : F.n - 1 + 1 < 1000000 := by omega
    simpa using this)
  refine ⟨[.lst (found.map .int), .lst [.int r]], rfl, ?_⟩
  have kd : kid (s ++ [Ob.lst (found.map VV.int), .lst [.int r]]) s.length = some (found.map .int) := kid_of (by rw [List.getElem?_append_right (Nat.le_refl _)]; simp)
  have so : biV true .sorted [.ref s.length] (s ++ [Ob.lst (found.map VV.int), .lst [.int r]]) = .ok (.ref (s.length + 2)) (s ++ ([Ob.lst (found.map VV.int), .lst [.int r]] ++ [.lst (towsL F f r)])) := by
    have e1 : seqInts (s ++ [Ob.lst (found.map VV.int), .lst [.int r]]) (.ref s.length) = some found := by
      show (kid (s ++ [Ob.lst (found.map VV.int), .lst [.int r]]) s.length).bind intsOf = _
      rw [kd]
      show mapO intOf (found.map VV.int) = _
      have := ints_map (f := fun (x : Int) => x) (l := found)
      rw [List.map_id'] at this
      exact this
    show (match seqInts (s ++ [Ob.lst (found.map VV.int), .lst [.int r]]) (.ref s.length) with
      | some ns => mkL true ((sortI ns).map .int) (s ++ [Ob.lst (found.map VV.int), .lst [.int r]])
      | none => .bad) = _
    rw [e1]
    dsimp only
    rw [hR'.whole ok st hr]
    have hl := hR'.len ok
    have e2 : ((tows F f r).map fun (j : Nat) => (j : Int)).map VV.int = (tows F f r).map fun (j : Nat) => VV.int j := by rw [List.map_map]; rfl
    rw [e2, mkL_t, List.append_assoc]
    · congr 2
      simp
    rw [List.length_map]
    unfold tows
    have := List.length_filter_le (towB F f r) (List.range F.n)
    rw [List.length_range] at this
    exact sz_of (by omega)
  have l1 : (s ++ [Ob.lst [VV.int (r : Int)]]).length = s.length + 1 := by simp
  have a1 : s ++ [Ob.lst [VV.int (r : Int)]] ++ [Ob.lst [VV.int (r : Int)]] = s ++ [Ob.lst [VV.int (r : Int)], Ob.lst [VV.int (r : Int)]] := by simp
  simp only [fn_towed, r_s, r_expr, r_call, r_cons, r_nil, r_var, r_get0, r_gets, r_bind, r_assoc, lb, r_cat, r_tnx, r_asg, r_tup, r_lst, r_mkM1, l1, a1, r_mkT2, r_asgt, r_asgc, r_asgv, r_asg0, r_set0, r_sets, r_mapS, r_lift, r_whl]
  unfold whC whS at e
  rw [show [(r : Int)].map VV.int = [VV.int (r : Int)] from rfl] at e
  rw [e]
  simp only [r_bind, r_tnx, r_s, r_ret, r_bi, r_cons, r_nil, r_var, r_get0, r_gets, r_assoc, so, r_cat, r_trt]
  rfl
theorem towsV_pur {r : Nat} : pur (towsV F f r) = true := purs_map fun _ _ => rfl
theorem towed_k (hP : HasTow P) (ok : F.Ok) (st : Stand F f) {r : Nat} (hr : r < F.n) (sv : VV) (hsv : ∀ S, seqOf S sv = some (mks F.n f)) (n : Nat) : ∃ g : Hs, g.length = 2 ∧ callF P (n + 5) true "towed" [seaV b F, sv, .int r] s = .ok (.ref (s.length + 2)) (s ++ (g ++ [.lst (towsL F f r)])) := by
  rw [callF_run hP.towed rfl]
  obtain ⟨g, hg, e⟩ := towed_e (s := s) (b := b) hP ok st hr sv hsv n
  refine ⟨g, hg, ?_⟩
  show (exs (callF P (n + 4)) fn_towed.body [some (seaV b F), some sv, some (.int r), none, none, none, none] s).bind _ = _
  rw [e, hg]
  rfl
theorem towed_ok (hP : HasTow P) (ok : F.Ok) (st : Stand F f) {r : Nat} (hr : r < F.n) (sv : VV) (hsv : ∀ S, seqOf S sv = some (mks F.n f)) (n : Nat) : callF P (n + 5) false "towed" [seaV b F, sv, .int r] s = .ok (towsV F f r) s := by
  rw [callF_run hP.towed rfl]
  obtain ⟨g, hg, e⟩ := towed_e (s := s) (b := b) hP ok st hr sv hsv n
  show (exs (callF P (n + 4)) fn_towed.body [some (seaV b F), some sv, some (.int r), none, none, none, none] s).bind _ = _
  rw [e]
  exact fin_newG (purs_map fun _ _ => rfl)
theorem enum_mks (n : Nat) (f : Mk) : enumV (mks n f) = (List.range n).map fun (j : Nat) => VV.tup [.int j, .int (f j)] := by
  apply List.ext_getElem?
  intro i
  unfold enumV mks
  rw [List.getElem?_mapIdx, List.getElem?_map, List.getElem?_map]
  by_cases h : i < n
  · rw [List.getElem?_range h]
    rfl
  · rw [List.getElem?_eq_none (by simpa using h)]
    rfl
theorem in_tows {r j : Nat} (hj : j < F.n) (S : Hs) : cmpV S .isin (.int j) (towsV F f r) = some (towB F f r j) := by
  have e : (tows F f r).map (fun (j : Nat) => VV.int j) = ((tows F f r).map fun (j : Nat) => (j : Int)).map VV.int := by rw [List.map_map]; rfl
  have := in_ints (s := S) (v := towsV F f r) (x := (j : Int)) (l := (tows F f r).map fun (j : Nat) => (j : Int)) (by
    show some _ = _
    rw [e])
  rw [this]
  congr 1
  rw [Bool.eq_iff_iff, decide_eq_true_eq, List.mem_map]
  constructor
  · rintro ⟨i, h1, h2⟩
    have : i = j := by omega
    subst this
    exact (List.mem_filter.mp h1).2
  · intro h
    exact ⟨j, List.mem_filter.mpr ⟨List.mem_range.mpr hj, h⟩, rfl⟩
theorem stroked_ok {kp : Bool} (hP : HasTow P) (ok : F.Ok) (st : Stand F f) {r : Nat} (hr : r < F.n) (n : Nat) : callF P (n + 6) kp "stroked" [seaV b F, mkV c F.n f, .int r] s = .ok (mkV true F.n (stroke F f r)) s := by
  rw [callF_run hP.stroked rfl]
  have e1 := towed_ok (s := s) (b := b) hP ok st hr (mkV c F.n f) (fun S => q_seq) n
  have c1 : compL [] (stepC (callF P (n + 5)) (.ite (.cmp .isin (.var 4) (.var 3)) (.bin false .add (.var 5) (.lit (.int 1))) (.var 5)) (.tup [(.var 4), (.var 5)]) [] [4, 5] [some (seaV b F), some (mkV c F.n f), some (.int r), some (towsV F f r), none, none])
      ((List.range F.n).map fun (j : Nat) => VV.tup [.int j, .int (f j)]) s = .ok (mks F.n (stroke F f r)) s := compL_map rfl fun j hj => by
    have hj := List.mem_range.mp hj
    have i1 := in_tows (F := F) (f := f) (r := r) hj s
    simp only [stepC, r_bind, r_assoc, r_lift, r_noX, r_var, r_lit, r_vvn, r_vvb, r_vvi, r_vvs, r_bin, r_neg, r_no, r_conj, r_disj, r_cmp, r_chain, r_ite, r_tup, r_lst, r_idx, r_sl, r_call, r_callk, r_bi, r_bm, r_comp, r_nil, r_cons, r_and1, r_and, r_or1, r_or, r_c0, r_c1, r_range, r_zip, r_enum, r_pl, r_s0, r_s, r_tnx, r_trt, r_tbk, r_tct, r_txc, r_cat, r_asg, r_sub, r_aug, r_expr, r_ret, r_ife, r_for, r_asgv, r_asgt, r_asgl, r_asg0, r_asgc, r_mapS, r_get0, r_gets, r_set0, r_sets, r_wip0, r_wip, r_trb, r_tri, r_ii, r_add, r_subi, r_gIdx, r_dcomp, r_scomp, r_sqt, r_sql, r_sqr, r_gCmp, r_lt, r_gt, r_le, r_ge, r_eqi, r_nei, r_isN, r_isI, r_inN, r_inI, r_neg', r_at0, r_at1, r_at2, r_ort, r_onx, r_lenl, r_lent, r_lenr, r_abs, r_intb, r_inti, r_max2, r_min2, r_tupt, r_tupl, r_tupr, r_listt, r_listl, r_listr, r_p6, r_p9, r_p11, r_p18, r_mkT0, r_mkF0, r_mkM0, r_mkT1, r_mkF1, r_mkM1, r_mkT2, r_mkF2, r_mkM2, r_mkT3, r_mkF3, r_mkM3, r_mkT4, r_mkF4, r_mkM4, r_mkT5, r_mkF5, r_mkM5, r_fld, r_gfld, r_isx, r_isxE, r_isxN, r_bcnt, r_catX, r_rai, r_tryk, r_tryN, r_tryR, r_tryX, r_oxc, r_bindX, sq_t, sq_f, q_seq, q_src, q_len, q_tup, q_list, q_asg, q_pur, q_srt, q_srl, optV_n, optV_s, r_isiI, r_isiT, r_isiL, isTy_ii, isTy_ib, isTy_il, isTy_it, isTy_tt, isTy_tl, isTy_ll, any_n, any_c, r_eqs, r_nes, r_repr, r_addT, i1, if_true, stroke]
    cases towB F f r j <;> simp only [if_true, if_false, Bool.false_eq_true, r_bind, r_assoc, r_lift, r_noX, r_var, r_lit, r_vvn, r_vvb, r_vvi, r_vvs, r_bin, r_neg, r_no, r_conj, r_disj, r_cmp, r_chain, r_ite, r_tup, r_lst, r_idx, r_sl, r_call, r_callk, r_bi, r_bm, r_comp, r_nil, r_cons, r_and1, r_and, r_or1, r_or, r_c0, r_c1, r_range, r_zip, r_enum, r_pl, r_s0, r_s, r_tnx, r_trt, r_tbk, r_tct, r_txc, r_cat, r_asg, r_sub, r_aug, r_expr, r_ret, r_ife, r_for, r_asgv, r_asgt, r_asgl, r_asg0, r_asgc, r_mapS, r_get0, r_gets, r_set0, r_sets, r_wip0, r_wip, r_trb, r_tri, r_ii, r_add, r_subi, r_gIdx, r_dcomp, r_scomp, r_sqt, r_sql, r_sqr, r_gCmp, r_lt, r_gt, r_le, r_ge, r_eqi, r_nei, r_isN, r_isI, r_inN, r_inI, r_neg', r_at0, r_at1, r_at2, r_ort, r_onx, r_lenl, r_lent, r_lenr, r_abs, r_intb, r_inti, r_max2, r_min2, r_tupt, r_tupl, r_tupr, r_listt, r_listl, r_listr, r_p6, r_p9, r_p11, r_p18, r_mkT0, r_mkF0, r_mkM0, r_mkT1, r_mkF1, r_mkM1, r_mkT2, r_mkF2, r_mkM2, r_mkT3, r_mkF3, r_mkM3, r_mkT4, r_mkF4, r_mkM4, r_mkT5, r_mkF5, r_mkM5, r_fld, r_gfld, r_isx, r_isxE, r_isxN, r_bcnt, r_catX, r_rai, r_tryk, r_tryN, r_tryR, r_tryX, r_oxc, r_bindX, sq_t, sq_f, q_seq, q_src, q_len, q_tup, q_list, q_asg, q_pur, q_srt, q_srl, optV_n, optV_s, r_isiI, r_isiT, r_isiL, isTy_ii, isTy_ib, isTy_il, isTy_it, isTy_tt, isTy_tl, isTy_ll, any_n, any_c, r_eqs, r_nes, r_repr, r_addT]
  have en : gEnum (mkV c F.n f) s = .ok ((List.range F.n).map fun (j : Nat) => VV.tup [.int j, .int (f j)], []) s := by
    unfold gEnum mkV
    rw [q_src]
    show Out.ok (enumV (mks F.n f), []) s = _
    rw [enum_mks]
  have sz : mkL false (mks F.n (stroke F f r)) s = .ok (.lst (mks F.n (stroke F f r))) s := mkL_f (sz_of (by have := ok.few; simp; omega))
  have sz2 : mkT (mks F.n (stroke F f r)) s = .ok (mkV true F.n (stroke F f r)) s := mkT_k (sz_of (by have := ok.few; simp; omega))
  simp only [fn_stroked, r_bind, r_assoc, r_lift, r_noX, r_var, r_lit, r_vvn, r_vvb, r_vvi, r_vvs, r_bin, r_neg, r_no, r_conj, r_disj, r_cmp, r_chain, r_ite, r_tup, r_lst, r_idx, r_sl, r_call, r_callk, r_bi, r_bm, r_comp, r_nil, r_cons, r_and1, r_and, r_or1, r_or, r_c0, r_c1, r_range, r_zip, r_enum, r_pl, r_s0, r_s, r_tnx, r_trt, r_tbk, r_tct, r_txc, r_cat, r_asg, r_sub, r_aug, r_expr, r_ret, r_ife, r_for, r_asgv, r_asgt, r_asgl, r_asg0, r_asgc, r_mapS, r_get0, r_gets, r_set0, r_sets, r_wip0, r_wip, r_trb, r_tri, r_ii, r_add, r_subi, r_gIdx, r_dcomp, r_scomp, r_sqt, r_sql, r_sqr, r_gCmp, r_lt, r_gt, r_le, r_ge, r_eqi, r_nei, r_isN, r_isI, r_inN, r_inI, r_neg', r_at0, r_at1, r_at2, r_ort, r_onx, r_lenl, r_lent, r_lenr, r_abs, r_intb, r_inti, r_max2, r_min2, r_tupt, r_tupl, r_tupr, r_listt, r_listl, r_listr, r_p6, r_p9, r_p11, r_p18, r_mkT0, r_mkF0, r_mkM0, r_mkT1, r_mkF1, r_mkM1, r_mkT2, r_mkF2, r_mkM2, r_mkT3, r_mkF3, r_mkM3, r_mkT4, r_mkF4, r_mkM4, r_mkT5, r_mkF5, r_mkM5, r_fld, r_gfld, r_isx, r_isxE, r_isxN, r_bcnt, r_catX, r_rai, r_tryk, r_tryN, r_tryR, r_tryX, r_oxc, r_bindX, sq_t, sq_f, q_seq, q_src, q_len, q_tup, q_list, q_asg, q_pur, q_srt, q_srl, optV_n, optV_s, r_isiI, r_isiT, r_isiL, isTy_ii, isTy_ib, isTy_il, isTy_it, isTy_tt, isTy_tl, isTy_ll, any_n, any_c, r_eqs, r_nes, r_repr, r_addT, List.map_cons, List.map_nil, List.replicate, List.cons_append, List.nil_append, Nat.reduceSub, e1, en, c1, sz, sz2]
  exact fin_same (mkV_pur _ _ _)
/-- strokes of two -/
theorem rowed2_ok {kp : Bool} (hP : HasTow P) (ok : F.Ok) (st : Stand F f) {r m : Nat} (hr : r < F.n) (hm : m < F.n) (n : Nat) : callF P (n + 7) kp "rowed" [seaV b F, mkV c F.n f, .lst [.int r, .int m]] s = .ok (mkV true F.n (stroke F (stroke F f r) m)) s := by
  rw [callF_run hP.rowed rfl]
  have e1 := stroked_ok (kp := true) (s := s) (b := b) (c := true) hP ok st hr n
  have e2 := stroked_ok (kp := true) (s := s) (b := b) (c := true) hP ok (stroke_stand ok st hr) hm n
  have sz2 : biV true .tuple [mkV c F.n f] s = .ok (mkV true F.n f) s := by
    unfold mkV
    rw [q_tup]
    exact mkT_k (sz_of (by have := ok.few; simp; omega))
  have fl : forL [] (stepF (callF P (n + 6)) (.var 4) [.asg (.var 3) (.call true "stroked" [(.var 0), (.var 3), (.var 4)])]) [.int r, .int m] [some (seaV b F), some (mkV c F.n f), some (.lst [.int r, .int m]), some (mkV true F.n f), none] s =
      .ok (.nx [some (seaV b F), some (mkV c F.n f), some (.lst [.int r, .int m]), some (mkV true F.n (stroke F (stroke F f r) m)), some (.int m)]) s := by
    show (if gokB s [] then (stepF _ _ _ (VV.int r) _ s).bind _ else _) = _
    rw [gokB_nil, if_pos rfl]
    unfold stepF
    simp only [r_bind, r_assoc, r_lift, r_noX, r_var, r_lit, r_vvn, r_vvb, r_vvi, r_vvs, r_bin, r_neg, r_no, r_conj, r_disj, r_cmp, r_chain, r_ite, r_tup, r_lst, r_idx, r_sl, r_call, r_callk, r_bi, r_bm, r_comp, r_nil, r_cons, r_and1, r_and, r_or1, r_or, r_c0, r_c1, r_range, r_zip, r_enum, r_pl, r_s0, r_s, r_tnx, r_trt, r_tbk, r_tct, r_txc, r_cat, r_asg, r_sub, r_aug, r_expr, r_ret, r_ife, r_for, r_asgv, r_asgt, r_asgl, r_asg0, r_asgc, r_mapS, r_get0, r_gets, r_set0, r_sets, r_wip0, r_wip, r_trb, r_tri, r_ii, r_add, r_subi, r_gIdx, r_dcomp, r_scomp, r_sqt, r_sql, r_sqr, r_gCmp, r_lt, r_gt, r_le, r_ge, r_eqi, r_nei, r_isN, r_isI, r_inN, r_inI, r_neg', r_at0, r_at1, r_at2, r_ort, r_onx, r_lenl, r_lent, r_lenr, r_abs, r_intb, r_inti, r_max2, r_min2, r_tupt, r_tupl, r_tupr, r_listt, r_listl, r_listr, r_p6, r_p9, r_p11, r_p18, r_mkT0, r_mkF0, r_mkM0, r_mkT1, r_mkF1, r_mkM1, r_mkT2, r_mkF2, r_mkM2, r_mkT3, r_mkF3, r_mkM3, r_mkT4, r_mkF4, r_mkM4, r_mkT5, r_mkF5, r_mkM5, r_fld, r_gfld, r_isx, r_isxE, r_isxN, r_bcnt, r_catX, r_rai, r_tryk, r_tryN, r_tryR, r_tryX, r_oxc, r_bindX, sq_t, sq_f, q_seq, q_src, q_len, q_tup, q_list, q_asg, q_pur, q_srt, q_srl, optV_n, optV_s, r_isiI, r_isiT, r_isiL, isTy_ii, isTy_ib, isTy_il, isTy_it, isTy_tt, isTy_tl, isTy_ll, any_n, any_c, r_eqs, r_nes, r_repr, r_addT, e1]
    show (if gokB s [] then _ else _) = _
    rw [gokB_nil, if_pos rfl]
    simp only [r_bind, r_assoc, r_lift, r_noX, r_var, r_lit, r_vvn, r_vvb, r_vvi, r_vvs, r_bin, r_neg, r_no, r_conj, r_disj, r_cmp, r_chain, r_ite, r_tup, r_lst, r_idx, r_sl, r_call, r_callk, r_bi, r_bm, r_comp, r_nil, r_cons, r_and1, r_and, r_or1, r_or, r_c0, r_c1, r_range, r_zip, r_enum, r_pl, r_s0, r_s, r_tnx, r_trt, r_tbk, r_tct, r_txc, r_cat, r_asg, r_sub, r_aug, r_expr, r_ret, r_ife, r_for, r_asgv, r_asgt, r_asgl, r_asg0, r_asgc, r_mapS, r_get0, r_gets, r_set0, r_sets, r_wip0, r_wip, r_trb, r_tri, r_ii, r_add, r_subi, r_gIdx, r_dcomp, r_scomp, r_sqt, r_sql, r_sqr, r_gCmp, r_lt, r_gt, r_le, r_ge, r_eqi, r_nei, r_isN, r_isI, r_inN, r_inI, r_neg', r_at0, r_at1, r_at2, r_ort, r_onx, r_lenl, r_lent, r_lenr, r_abs, r_intb, r_inti, r_max2, r_min2, r_tupt, r_tupl, r_tupr, r_listt, r_listl, r_listr, r_p6, r_p9, r_p11, r_p18, r_mkT0, r_mkF0, r_mkM0, r_mkT1, r_mkF1, r_mkM1, r_mkT2, r_mkF2, r_mkM2, r_mkT3, r_mkF3, r_mkM3, r_mkT4, r_mkF4, r_mkM4, r_mkT5, r_mkF5, r_mkM5, r_fld, r_gfld, r_isx, r_isxE, r_isxN, r_bcnt, r_catX, r_rai, r_tryk, r_tryN, r_tryR, r_tryX, r_oxc, r_bindX, sq_t, sq_f, q_seq, q_src, q_len, q_tup, q_list, q_asg, q_pur, q_srt, q_srl, optV_n, optV_s, r_isiI, r_isiT, r_isiL, isTy_ii, isTy_ib, isTy_il, isTy_it, isTy_tt, isTy_tl, isTy_ll, any_n, any_c, r_eqs, r_nes, r_repr, r_addT, e2]
    show (if gokB s [] then _ else _) = _
    rw [gokB_nil, if_pos rfl]
  have sr : srcOf s (.lst [.int r, .int m]) = some ([.int r, .int m], []) := rfl
  simp only [fn_rowed, r_bind, r_assoc, r_lift, r_noX, r_var, r_lit, r_vvn, r_vvb, r_vvi, r_vvs, r_bin, r_neg, r_no, r_conj, r_disj, r_cmp, r_chain, r_ite, r_tup, r_lst, r_idx, r_sl, r_call, r_callk, r_bi, r_bm, r_comp, r_nil, r_cons, r_and1, r_and, r_or1, r_or, r_c0, r_c1, r_range, r_zip, r_enum, r_pl, r_s0, r_s, r_tnx, r_trt, r_tbk, r_tct, r_txc, r_cat, r_asg, r_sub, r_aug, r_expr, r_ret, r_ife, r_for, r_asgv, r_asgt, r_asgl, r_asg0, r_asgc, r_mapS, r_get0, r_gets, r_set0, r_sets, r_wip0, r_wip, r_trb, r_tri, r_ii, r_add, r_subi, r_gIdx, r_dcomp, r_scomp, r_sqt, r_sql, r_sqr, r_gCmp, r_lt, r_gt, r_le, r_ge, r_eqi, r_nei, r_isN, r_isI, r_inN, r_inI, r_neg', r_at0, r_at1, r_at2, r_ort, r_onx, r_lenl, r_lent, r_lenr, r_abs, r_intb, r_inti, r_max2, r_min2, r_tupt, r_tupl, r_tupr, r_listt, r_listl, r_listr, r_p6, r_p9, r_p11, r_p18, r_mkT0, r_mkF0, r_mkM0, r_mkT1, r_mkF1, r_mkM1, r_mkT2, r_mkF2, r_mkM2, r_mkT3, r_mkF3, r_mkM3, r_mkT4, r_mkF4, r_mkM4, r_mkT5, r_mkF5, r_mkM5, r_fld, r_gfld, r_isx, r_isxE, r_isxN, r_bcnt, r_catX, r_rai, r_tryk, r_tryN, r_tryR, r_tryX, r_oxc, r_bindX, sq_t, sq_f, q_seq, q_src, q_len, q_tup, q_list, q_asg, q_pur, q_srt, q_srl, optV_n, optV_s, r_isiI, r_isiT, r_isiL, isTy_ii, isTy_ib, isTy_il, isTy_it, isTy_tt, isTy_tl, isTy_ll, any_n, any_c, r_eqs, r_nes, r_repr, r_addT, List.map_cons, List.map_nil, List.replicate, List.cons_append, List.nil_append, Nat.reduceSub, sz2, fl]
  exact fin_same (mkV_pur _ _ _)
end
end Tw
set_option Elab.async false
set_option linter.all false
set_option autoImplicit false
set_option maxRecDepth 100000
/-! LibGoal: standings by draws, goals. -/
namespace Tw
def fn__law_lies : Fn := ⟨3, 4, [.ret (.call false "_law_moor" [(.var 1), (.comp false (.call false "_law_wide" [(.var 0), (.bin false .add (.var 2) (.lit (.int 1)))]) (.var 3) (.range [(.idx (.var 1) (.lit (.int 0)))]) [] [3])])]⟩
def fn__law_goal : Fn := ⟨4, 8, [.asg (.tup [(.var 4), (.var 5)]) (.tup [(.call false "_law_take" [(.var 0), (.lit (.int 3))]), (.lst true [])]), .forr (.var 6) (.pl (.var 2)) [.asg (.var 7) (.call false "_law_wide" [(.var 0), (.bin false .add (.var 3) (.lit (.int 1)))]), .expr (.bm .append (.var 5) [(.ite (.conj [(.cmp .eq (.var 4) (.lit (.int 0))), (.cmp .eq (.call false "_law_take" [(.var 0), (.lit (.int 2))]) (.lit (.int 0)))]) (.var 6) (.bin false .add (.var 6) (.var 7)))])], .ret (.call false "_law_moor" [(.var 1), (.var 5)])]⟩
structure HasLies (P : Pg) : Prop extends HasBox P where
  leads : P "_law_leads" = some fn__law_leads
  moor : P "_law_moor" = some fn__law_moor
  lies : P "_law_lies" = some fn__law_lies
structure HasGoal (P : Pg) : Prop extends HasLies P where
  goal : P "_law_goal" = some fn__law_goal
section
variable {P : Pg} {F : Sea} {s ex : Hs} {k : Nat} {bx : Bx} {f : Mk} {b : Bool}
theorem moor_le {m : Mk} (ok : F.Ok) {B : Int} (h : ∀ i, i < F.n → m i ≤ B) : ∀ i, i < F.n → moor F m i ≤ B := fun i hi =>
  (moor_ok ok m).least (fun _ => B) (fun r hr => by have := ok.nn r hr; dsimp only; omega) (fun i hi => h i hi) i hi
theorem lies_ok (hP : HasLies P) (ok : F.Ok) (n : Nat) (hk : k < s.length) (h : Int) (hh : 0 ≤ h) : ∃ (f : Mk) (b' : Bx), Stand F f ∧ (∀ i, i < F.n → 0 ≤ f i ∧ f i ≤ h) ∧ callF P (n + 4) false "_law_lies" [.ref k, seaV b F, .int h] (St s k bx ex) = .ok (mkV true F.n f) (St s k b' ex) := by
  obtain ⟨m, b', hm, e1⟩ := draws (n := F.n) (s := s) (ex := ex) (k := k) (step := stepC (callF P (n + 3)) (.call false "_law_wide" [(.var 0), (.bin false .add (.var 2) (.lit (.int 1)))]) (.var 3) [] [3] [some (.ref k), some (seaV b F), some (.int h), none])
    (φ := fun _ r => 0 ≤ r ∧ r ≤ h) (fun i b hi => by
      obtain ⟨r, b', q1, q2, e⟩ := wide_ok (b := b) (ex := ex) hP.toHasBox (n + 1) false hk (h + 1) (by omega)
      refine ⟨r, b', ⟨q1, by omega⟩, ?_⟩
      simp only [stepC, r_bind, r_assoc, r_lift, r_noX, r_var, r_lit, r_vvn, r_vvb, r_vvi, r_vvs, r_bin, r_neg, r_no, r_conj, r_disj, r_cmp, r_chain, r_ite, r_tup, r_lst, r_idx, r_sl, r_call, r_callk, r_bi, r_bm, r_comp, r_nil, r_cons, r_and1, r_and, r_or1, r_or, r_c0, r_c1, r_range, r_zip, r_enum, r_pl, r_s0, r_s, r_tnx, r_trt, r_tbk, r_tct, r_txc, r_cat, r_asg, r_sub, r_aug, r_expr, r_ret, r_ife, r_for, r_asgv, r_asgt, r_asgl, r_asg0, r_asgc, r_mapS, r_get0, r_gets, r_set0, r_sets, r_wip0, r_wip, r_trb, r_tri, r_ii, r_add, r_subi, r_gIdx, r_dcomp, r_scomp, r_sqt, r_sql, r_sqr, r_gCmp, r_lt, r_gt, r_le, r_ge, r_eqi, r_nei, r_isN, r_isI, r_inN, r_inI, r_neg', r_at0, r_at1, r_at2, r_ort, r_onx, r_lenl, r_lent, r_lenr, r_abs, r_intb, r_inti, r_max2, r_min2, r_tupt, r_tupl, r_tupr, r_listt, r_listl, r_listr, r_p6, r_p9, r_p11, r_p18, r_mkT0, r_mkF0, r_mkM0, r_mkT1, r_mkF1, r_mkM1, r_mkT2, r_mkF2, r_mkM2, r_mkT3, r_mkF3, r_mkM3, r_mkT4, r_mkF4, r_mkM4, r_mkT5, r_mkF5, r_mkM5, r_fld, r_gfld, r_isx, r_isxE, r_isxN, r_bcnt, r_catX, r_rai, r_tryk, r_tryN, r_tryR, r_tryX, r_oxc, r_bindX, sq_t, sq_f, q_seq, q_src, q_len, q_tup, q_list, q_asg, q_pur, q_srt, q_srl, optV_n, optV_s, r_isiI, r_isiT, r_isiL, isTy_ii, isTy_ib, isTy_il, isTy_it, isTy_tt, isTy_tl, isTy_ll, any_n, any_c, r_eqs, r_nes, r_repr, r_addT, e, if_true]) bx
  have mo := moor_ok ok m
  refine ⟨moor F m, b', mo.st, fun i hi => ⟨?_, moor_le ok (fun i hi => (hm i hi).2) i hi⟩, ?_⟩
  · have h1 := mo.up i hi
    have h2 := (hm i hi : 0 ≤ m i ∧ m i ≤ h)
    omega
  · rw [callF_run hP.lies rfl]
    have sv : seqOf (St s k bx ex) (seaV b F) = some [.int F.n, sq b (F.ropes.map (ropeV b))] := q_seq
    have rg := rng_nat (s := St s k bx ex) (rngs ok.few)
    have sz : mkL false (mks F.n m) (St s k b' ex) = .ok (mkV false F.n m) (St s k b' ex) := mkL_f (sz_of (by have := ok.few; simp; omega))
    have ml := moorL_ok (s := St s k b' ex) (b := b) (c := false) hP.leads hP.moor ok m (n + 1)
    simp only [fn__law_lies, r_bind, r_assoc, r_lift, r_noX, r_var, r_lit, r_vvn, r_vvb, r_vvi, r_vvs, r_bin, r_neg, r_no, r_conj, r_disj, r_cmp, r_chain, r_ite, r_tup, r_lst, r_idx, r_sl, r_call, r_callk, r_bi, r_bm, r_comp, r_nil, r_cons, r_and1, r_and, r_or1, r_or, r_c0, r_c1, r_range, r_zip, r_enum, r_pl, r_s0, r_s, r_tnx, r_trt, r_tbk, r_tct, r_txc, r_cat, r_asg, r_sub, r_aug, r_expr, r_ret, r_ife, r_for, r_asgv, r_asgt, r_asgl, r_asg0, r_asgc, r_mapS, r_get0, r_gets, r_set0, r_sets, r_wip0, r_wip, r_trb, r_tri, r_ii, r_add, r_subi, r_gIdx, r_dcomp, r_scomp, r_sqt, r_sql, r_sqr, r_gCmp, r_lt, r_gt, r_le, r_ge, r_eqi, r_nei, r_isN, r_isI, r_inN, r_inI, r_neg', r_at0, r_at1, r_at2, r_ort, r_onx, r_lenl, r_lent, r_lenr, r_abs, r_intb, r_inti, r_max2, r_min2, r_tupt, r_tupl, r_tupr, r_listt, r_listl, r_listr, r_p6, r_p9, r_p11, r_p18, r_mkT0, r_mkF0, r_mkM0, r_mkT1, r_mkF1, r_mkM1, r_mkT2, r_mkF2, r_mkM2, r_mkT3, r_mkF3, r_mkM3, r_mkT4, r_mkF4, r_mkM4, r_mkT5, r_mkF5, r_mkM5, r_fld, r_gfld, r_isx, r_isxE, r_isxN, r_bcnt, r_catX, r_rai, r_tryk, r_tryN, r_tryR, r_tryX, r_oxc, r_bindX, sq_t, sq_f, q_seq, q_src, q_len, q_tup, q_list, q_asg, q_pur, q_srt, q_srl, optV_n, optV_s, r_isiI, r_isiT, r_isiL, isTy_ii, isTy_ib, isTy_il, isTy_it, isTy_tt, isTy_tl, isTy_ll, any_n, any_c, r_eqs, r_nes, r_repr, r_addT, List.map_cons, List.map_nil, List.replicate, List.cons_append, List.nil_append, Nat.reduceSub, sv, rg, e1, sz, ml]
    exact fin_box hk (mkV_pur _ _ _)
theorem mks_snoc (i : Nat) (f : Mk) (x : Int) : mks i f ++ [VV.int x] = mks (i + 1) fun j => if j = i then x else f j := by
  unfold mks
  rw [List.range_succ, List.map_append]
  congr 1
  · apply List.map_congr_left
    intro j hj
    have := List.mem_range.mp hj
    dsimp only
    rw [if_neg (by omega)]
  · simp
theorem goal_ok (hP : HasGoal P) (ok : F.Ok) (n : Nat) (hk : k < s.length) (h : Int) (hh : 0 ≤ h) (hf : ∀ i, i < F.n → 0 ≤ f i) (B : Int) (hB : ∀ i, i < F.n → f i ≤ B) :
    ∃ (g : Mk) (b' : Bx), Stand F g ∧ (∀ i, i < F.n → f i ≤ g i ∧ g i ≤ B + h) ∧ callF P (n + 4) false "_law_goal" [.ref k, seaV b F, mkV true F.n f, .int h] (St s k bx ex) = .ok (mkV true F.n g) (St s k b' ex) := by
  obtain ⟨w, b1, w0, w1, e1⟩ := draw_ok (b := bx) (ex := ex) hP.toHasBox (n + 2) false hk 3 ⟨by decide, by decide⟩
  obtain ⟨σ', S', e2, m, b2, o6, o7, rfl, rfl, hm⟩ := forL_ok (step := stepF (callF P (n + 3)) (.var 6) [.asg (.var 7) (.call false "_law_wide" [(.var 0), (.bin false .add (.var 3) (.lit (.int 1)))]), .expr (.bm .append (.var 5) [(.ite (.conj [(.cmp .eq (.var 4) (.lit (.int 0))), (.cmp .eq (.call false "_law_take" [(.var 0), (.lit (.int 2))]) (.lit (.int 0)))]) (.var 6) (.bin false .add (.var 6) (.var 7)))])])
    (fun i σ S => ∃ (m : Mk) (b' : Bx) (o6 o7 : Option VV), σ = [some (.ref k), some (seaV b F), some (mkV true F.n f), some (.int h), some (.int w), some (.ref (s.length + ex.length)), o6, o7] ∧ S = St s k b' (ex ++ [.lst (mks i m)]) ∧ ∀ j, j < i → f j ≤ m j ∧ m j ≤ f j + h)
    (mks F.n f) _ (St s k b1 (ex ++ [.lst []])) 0 ⟨f, b1, none, none, rfl, rfl, fun j hj => by omega⟩ fun i x σ S hx hI => by
      obtain ⟨j, hj, rfl⟩ := map_at hx
      obtain ⟨hl, ej⟩ := List.getElem?_eq_some_iff.mp hj
      rw [List.getElem_range] at ej
      subst ej
      rw [List.length_range] at hl
      rw [Nat.zero_add] at hI ⊢
      obtain ⟨m, b', o6, o7, rfl, rfl, hm⟩ := hI
      obtain ⟨far, b3, f0, f1, e3⟩ := wide_ok (b := b') (ex := ex ++ [.lst (mks i m)]) hP.toHasBox (n + 1) false hk (h + 1) (by omega)
      have sz : (mks i m).length < szL := by
        have := sz_of (n := i + 1) (by have := ok.few; omega)
        simp
        omega
      have put : ∀ (bb : Bx) (x : Int), bmV .append (.ref (s.length + ex.length)) [.int x] (St s k bb (ex ++ [.lst (mks i m)])) = .ok .non (St s k bb (ex ++ [.lst (mks (i + 1) fun j => if j = i then x else m j)])) := fun bb x => by
        have := bm_app (s := St s k bb (ex ++ [.lst (mks i m)])) (x := .int x) St.kidL sz
        rw [St.setL, mks_snoc] at this
        exact this
      have ty : ∀ bb : Bx, bmTy .append (.ref (s.length + ex.length)) (St s k bb (ex ++ [.lst (mks i m)])) = some () := fun bb => bm_ty St.kidL
      have inv : ∀ x : Int, f i ≤ x → x ≤ f i + h → ∀ j, j < i + 1 → f j ≤ (if j = i then x else m j) ∧ (if j = i then x else m j) ≤ f j + h := fun x h1 h2 j hj => by
        split
        · rename_i e; subst e; exact ⟨h1, h2⟩
        · exact hm j (by omega)
      by_cases hw : w = 0
      · obtain ⟨t, b4, t0, t1, e4⟩ := draw_ok (b := b3) (ex := ex ++ [.lst (mks i m)]) hP.toHasBox (n + 2) false hk 2 ⟨by decide, by decide⟩
        by_cases ht : t = 0
        · refine ⟨_, _, ?_, fun j => if j = i then f i else m j, b4, some (.int (f i)), some (.int far), rfl, rfl, inv (f i) (Int.le_refl _) (by omega)⟩
          rw [stepF_v]
          simp only [r_bind, r_assoc, r_lift, r_noX, r_var, r_lit, r_vvn, r_vvb, r_vvi, r_vvs, r_bin, r_neg, r_no, r_conj, r_disj, r_cmp, r_chain, r_ite, r_tup, r_lst, r_idx, r_sl, r_call, r_callk, r_bi, r_bm, r_comp, r_nil, r_cons, r_and1, r_and, r_or1, r_or, r_c0, r_c1, r_range, r_zip, r_enum, r_pl, r_s0, r_s, r_tnx, r_trt, r_tbk, r_tct, r_txc, r_cat, r_asg, r_sub, r_aug, r_expr, r_ret, r_ife, r_for, r_asgv, r_asgt, r_asgl, r_asg0, r_asgc, r_mapS, r_get0, r_gets, r_set0, r_sets, r_wip0, r_wip, r_trb, r_tri, r_ii, r_add, r_subi, r_gIdx, r_dcomp, r_scomp, r_sqt, r_sql, r_sqr, r_gCmp, r_lt, r_gt, r_le, r_ge, r_eqi, r_nei, r_isN, r_isI, r_inN, r_inI, r_neg', r_at0, r_at1, r_at2, r_ort, r_onx, r_lenl, r_lent, r_lenr, r_abs, r_intb, r_inti, r_max2, r_min2, r_tupt, r_tupl, r_tupr, r_listt, r_listl, r_listr, r_p6, r_p9, r_p11, r_p18, r_mkT0, r_mkF0, r_mkM0, r_mkT1, r_mkF1, r_mkM1, r_mkT2, r_mkF2, r_mkM2, r_mkT3, r_mkF3, r_mkM3, r_mkT4, r_mkF4, r_mkM4, r_mkT5, r_mkF5, r_mkM5, r_fld, r_gfld, r_isx, r_isxE, r_isxN, r_bcnt, r_catX, r_rai, r_tryk, r_tryN, r_tryR, r_tryX, r_oxc, r_bindX, sq_t, sq_f, q_seq, q_src, q_len, q_tup, q_list, q_asg, q_pur, q_srt, q_srl, optV_n, optV_s, r_isiI, r_isiT, r_isiL, isTy_ii, isTy_ib, isTy_il, isTy_it, isTy_tt, isTy_tl, isTy_ll, any_n, any_c, r_eqs, r_nes, r_repr, r_addT, e3, hw, ht, ty, decide_true, if_true, e4, put]
        · refine ⟨_, _, ?_, fun j => if j = i then f i + far else m j, b4, some (.int (f i)), some (.int far), rfl, rfl, inv (f i + far) (by omega) (by omega)⟩
          rw [stepF_v]
          simp only [r_bind, r_assoc, r_lift, r_noX, r_var, r_lit, r_vvn, r_vvb, r_vvi, r_vvs, r_bin, r_neg, r_no, r_conj, r_disj, r_cmp, r_chain, r_ite, r_tup, r_lst, r_idx, r_sl, r_call, r_callk, r_bi, r_bm, r_comp, r_nil, r_cons, r_and1, r_and, r_or1, r_or, r_c0, r_c1, r_range, r_zip, r_enum, r_pl, r_s0, r_s, r_tnx, r_trt, r_tbk, r_tct, r_txc, r_cat, r_asg, r_sub, r_aug, r_expr, r_ret, r_ife, r_for, r_asgv, r_asgt, r_asgl, r_asg0, r_asgc, r_mapS, r_get0, r_gets, r_set0, r_sets, r_wip0, r_wip, r_trb, r_tri, r_ii, r_add, r_subi, r_gIdx, r_dcomp, r_scomp, r_sqt, r_sql, r_sqr, r_gCmp, r_lt, r_gt, r_le, r_ge, r_eqi, r_nei, r_isN, r_isI, r_inN, r_inI, r_neg', r_at0, r_at1, r_at2, r_ort, r_onx, r_lenl, r_lent, r_lenr, r_abs, r_intb, r_inti, r_max2, r_min2, r_tupt, r_tupl, r_tupr, r_listt, r_listl, r_listr, r_p6, r_p9, r_p11, r_p18, r_mkT0, r_mkF0, r_mkM0, r_mkT1, r_mkF1, r_mkM1, r_mkT2, r_mkF2, r_mkM2, r_mkT3, r_mkF3, r_mkM3, r_mkT4, r_mkF4, r_mkM4, r_mkT5, r_mkF5, r_mkM5, r_fld, r_gfld, r_isx, r_isxE, r_isxN, r_bcnt, r_catX, r_rai, r_tryk, r_tryN, r_tryR, r_tryX, r_oxc, r_bindX, sq_t, sq_f, q_seq, q_src, q_len, q_tup, q_list, q_asg, q_pur, q_srt, q_srl, optV_n, optV_s, r_isiI, r_isiT, r_isiL, isTy_ii, isTy_ib, isTy_il, isTy_it, isTy_tt, isTy_tl, isTy_ll, any_n, any_c, r_eqs, r_nes, r_repr, r_addT, e3, hw, ty, decide_true, if_true, e4, ht, decide_false, if_false, Bool.false_eq_true, put]
      · refine ⟨_, _, ?_, fun j => if j = i then f i + far else m j, b3, some (.int (f i)), some (.int far), rfl, rfl, inv (f i + far) (by omega) (by omega)⟩
        rw [stepF_v]
        simp only [r_bind, r_assoc, r_lift, r_noX, r_var, r_lit, r_vvn, r_vvb, r_vvi, r_vvs, r_bin, r_neg, r_no, r_conj, r_disj, r_cmp, r_chain, r_ite, r_tup, r_lst, r_idx, r_sl, r_call, r_callk, r_bi, r_bm, r_comp, r_nil, r_cons, r_and1, r_and, r_or1, r_or, r_c0, r_c1, r_range, r_zip, r_enum, r_pl, r_s0, r_s, r_tnx, r_trt, r_tbk, r_tct, r_txc, r_cat, r_asg, r_sub, r_aug, r_expr, r_ret, r_ife, r_for, r_asgv, r_asgt, r_asgl, r_asg0, r_asgc, r_mapS, r_get0, r_gets, r_set0, r_sets, r_wip0, r_wip, r_trb, r_tri, r_ii, r_add, r_subi, r_gIdx, r_dcomp, r_scomp, r_sqt, r_sql, r_sqr, r_gCmp, r_lt, r_gt, r_le, r_ge, r_eqi, r_nei, r_isN, r_isI, r_inN, r_inI, r_neg', r_at0, r_at1, r_at2, r_ort, r_onx, r_lenl, r_lent, r_lenr, r_abs, r_intb, r_inti, r_max2, r_min2, r_tupt, r_tupl, r_tupr, r_listt, r_listl, r_listr, r_p6, r_p9, r_p11, r_p18, r_mkT0, r_mkF0, r_mkM0, r_mkT1, r_mkF1, r_mkM1, r_mkT2, r_mkF2, r_mkM2, r_mkT3, r_mkF3, r_mkM3, r_mkT4, r_mkF4, r_mkM4, r_mkT5, r_mkF5, r_mkM5, r_fld, r_gfld, r_isx, r_isxE, r_isxN, r_bcnt, r_catX, r_rai, r_tryk, r_tryN, r_tryR, r_tryX, r_oxc, r_bindX, sq_t, sq_f, q_seq, q_src, q_len, q_tup, q_list, q_asg, q_pur, q_srt, q_srl, optV_n, optV_s, r_isiI, r_isiT, r_isiL, isTy_ii, isTy_ib, isTy_il, isTy_it, isTy_tt, isTy_tl, isTy_ll, any_n, any_c, r_eqs, r_nes, r_repr, r_addT, e3, hw, ty, decide_false, if_false, Bool.false_eq_true, put]
  rw [List.length_map, List.length_range, Nat.zero_add] at hm
  rw [List.length_map, List.length_range, Nat.zero_add] at e2
  have mo := moor_ok ok m
  refine ⟨moor F m, b2, mo.st, fun i hi => ⟨?_, moor_le ok (fun i hi => by have h1 := hm i hi; have h2 := hB i hi; omega) i hi⟩, ?_⟩
  · have h1 := mo.up i hi
    have h2 := hm i hi
    omega
  · rw [callF_run hP.goal rfl]
    have sr : srcOf (St s k b1 (ex ++ [.lst []])) (mkV true F.n f) = some (mks F.n f, []) := q_src
    have l1 : (St s k b1 ex).length = s.length + ex.length := St.len
    have a1 : St s k b1 ex ++ [Ob.lst []] = St s k b1 (ex ++ [.lst []]) := St.app _
    have ml0 : callF P (n + 3) false "_law_moor" [seaV b F, .ref (s.length + ex.length)] (St s k b2 (ex ++ [.lst (mks F.n m)])) = .ok (mkV true F.n (moor F m)) (St s k b2 (ex ++ [.lst (mks F.n m)])) := by
      refine moorL_okv hP.leads hP.moor ok m (n + 1) fun g => ?_
      show kid _ _ = _
      refine kid_of ?_
      have := (St.kidL (s := s) (ex := ex) (k := k) (b := b2) (xs := mks F.n m))
      rw [List.getElem?_append_left (by simp [St] <;> omega)]
      exact kid_some this
    simp only [fn__law_goal, r_bind, r_assoc, r_lift, r_noX, r_var, r_lit, r_vvn, r_vvb, r_vvi, r_vvs, r_bin, r_neg, r_no, r_conj, r_disj, r_cmp, r_chain, r_ite, r_tup, r_lst, r_idx, r_sl, r_call, r_callk, r_bi, r_bm, r_comp, r_nil, r_cons, r_and1, r_and, r_or1, r_or, r_c0, r_c1, r_range, r_zip, r_enum, r_pl, r_s0, r_s, r_tnx, r_trt, r_tbk, r_tct, r_txc, r_cat, r_asg, r_sub, r_aug, r_expr, r_ret, r_ife, r_for, r_asgv, r_asgt, r_asgl, r_asg0, r_asgc, r_mapS, r_get0, r_gets, r_set0, r_sets, r_wip0, r_wip, r_trb, r_tri, r_ii, r_add, r_subi, r_gIdx, r_dcomp, r_scomp, r_sqt, r_sql, r_sqr, r_gCmp, r_lt, r_gt, r_le, r_ge, r_eqi, r_nei, r_isN, r_isI, r_inN, r_inI, r_neg', r_at0, r_at1, r_at2, r_ort, r_onx, r_lenl, r_lent, r_lenr, r_abs, r_intb, r_inti, r_max2, r_min2, r_tupt, r_tupl, r_tupr, r_listt, r_listl, r_listr, r_p6, r_p9, r_p11, r_p18, r_mkT0, r_mkF0, r_mkM0, r_mkT1, r_mkF1, r_mkM1, r_mkT2, r_mkF2, r_mkM2, r_mkT3, r_mkF3, r_mkM3, r_mkT4, r_mkF4, r_mkM4, r_mkT5, r_mkF5, r_mkM5, r_fld, r_gfld, r_isx, r_isxE, r_isxN, r_bcnt, r_catX, r_rai, r_tryk, r_tryN, r_tryR, r_tryX, r_oxc, r_bindX, sq_t, sq_f, q_seq, q_src, q_len, q_tup, q_list, q_asg, q_pur, q_srt, q_srl, optV_n, optV_s, r_isiI, r_isiT, r_isiL, isTy_ii, isTy_ib, isTy_il, isTy_it, isTy_tt, isTy_tl, isTy_ll, any_n, any_c, r_eqs, r_nes, r_repr, r_addT, List.map_cons, List.map_nil, List.replicate, List.cons_append, List.nil_append, Nat.reduceSub, e1, l1, a1, sr, e2, ml0]
    have := fin_boxes (s := s) (k := k) (ex := ex) (bx := bx) (bx' := b2) (v := mkV true F.n (moor F m)) hk (mkV_pur _ _ _) [.lst (mks F.n m)]
    exact this
end
end Tw
set_option Elab.async false
set_option linter.all false
set_option autoImplicit false
set_option maxRecDepth 100000
/-! LibRow: rows of strokes; boats that aren't there. -/
namespace Tw
open PySem (PyData)
def fn_strokes_of : Fn := ⟨2, 4, [.forr (.var 2) (.pl (.var 1)) [.expr (.call false "look_boat" [(.var 0), (.var 2)])], .ret (.comp true (.bi false .len [(.comp false (.var 2) (.var 2) (.pl (.var 1)) [(.cmp .eq (.var 2) (.var 3))] [2])]) (.var 3) (.range [(.idx (.var 0) (.lit (.int 0)))]) [] [3])]⟩
section
variable {P : Pg} {F : Sea} {s : Hs} {b c : Bool} {f : Mk} {v : VV}
/-- not a boat of the fleet -/
def NoB (F : Sea) (i : Int) : Prop := i < 0 ∨ (F.n : Int) ≤ i
theorem look_x (hN : P "is_number" = some fn_is_number) (hC : P "is_count" = some fn_is_count) (hB : P "is_boat" = some fn_is_boat) (hL : P "look_boat" = some fn_look_boat) (n : Nat) {k : Bool} {i : Int} (hi : NoB F i) : callF P (n + 4) k "look_boat" [seaV b F, .int i] s = .exc (.exc "NoBoat" (.int i)) s := by
  rw [callF_run hL rfl]
  have e := boat_ok (s := s) hN hC hB n (F.n : Int) i
  have e1 : (decide ((0 : Int) ≤ i) && decide (i < (F.n : Int))) = false := by
    rcases hi with h | h
    · rw [decide_eq_false (by omega), Bool.false_and]
    · rw [decide_eq_false (p := i < (F.n : Int)) (by omega), Bool.and_false]
  rw [e1] at e
  have sv : seqOf s (seaV b F) = some [.int F.n, sq b (F.ropes.map (ropeV b))] := q_seq
  have fs : fin k s (.int i) s = .ok (.int i) s := fin_same rfl
  simp only [fn_look_boat, r_bind, r_assoc, r_lift, r_noX, r_var, r_lit, r_vvn, r_vvb, r_vvi, r_vvs, r_bin, r_neg, r_no, r_conj, r_disj, r_cmp, r_chain, r_ite, r_tup, r_lst, r_idx, r_sl, r_call, r_callk, r_bi, r_bm, r_comp, r_nil, r_cons, r_and1, r_and, r_or1, r_or, r_c0, r_c1, r_range, r_zip, r_enum, r_pl, r_s0, r_s, r_tnx, r_trt, r_tbk, r_tct, r_txc, r_cat, r_asg, r_sub, r_aug, r_expr, r_ret, r_ife, r_for, r_asgv, r_asgt, r_asgl, r_asg0, r_asgc, r_mapS, r_get0, r_gets, r_set0, r_sets, r_wip0, r_wip, r_trb, r_tri, r_ii, r_add, r_subi, r_gIdx, r_dcomp, r_scomp, r_sqt, r_sql, r_sqr, r_gCmp, r_lt, r_gt, r_le, r_ge, r_eqi, r_nei, r_isN, r_isI, r_inN, r_inI, r_neg', r_at0, r_at1, r_at2, r_ort, r_onx, r_lenl, r_lent, r_lenr, r_abs, r_intb, r_inti, r_max2, r_min2, r_tupt, r_tupl, r_tupr, r_listt, r_listl, r_listr, r_p6, r_p9, r_p11, r_p18, r_mkT0, r_mkF0, r_mkM0, r_mkT1, r_mkF1, r_mkM1, r_mkT2, r_mkF2, r_mkM2, r_mkT3, r_mkF3, r_mkM3, r_mkT4, r_mkF4, r_mkM4, r_mkT5, r_mkF5, r_mkM5, r_fld, r_gfld, r_isx, r_isxE, r_isxN, r_bcnt, r_catX, r_rai, r_tryk, r_tryN, r_tryR, r_tryX, r_oxc, r_bindX, sq_t, sq_f, q_seq, q_src, q_len, q_tup, q_list, q_asg, q_pur, q_srt, q_srl, optV_n, optV_s, r_isiI, r_isiT, r_isiL, isTy_ii, isTy_ib, isTy_il, isTy_it, isTy_tt, isTy_tl, isTy_ll, any_n, any_c, r_eqs, r_nes, r_repr, r_addT, List.map_cons, List.map_nil, List.replicate, List.cons_append, List.nil_append, Nat.reduceSub, sv, e, Bool.not_false, if_true, fs]
theorem towed_x (hP : HasTow P) (n : Nat) {k : Bool} (sv : VV) {i : Int} (hi : NoB F i) : callF P (n + 5) k "towed" [seaV b F, sv, .int i] s = .exc (.exc "NoBoat" (.int i)) s := by
  rw [callF_run hP.towed rfl]
  have e := look_x (s := s) (b := b) (k := false) hP.number hP.count hP.boat hP.look n hi
  have fs : fin k s (.int i) s = .ok (.int i) s := fin_same rfl
  show (exs (callF P (n + 4)) fn_towed.body [some (seaV b F), some sv, some (.int i), none, none, none, none] s).bind _ = _
  simp only [fn_towed, r_s, r_expr, r_call, r_cons, r_nil, r_var, r_get0, r_gets, r_bind, r_assoc, e, r_bindX, r_catX, r_txc, r_oxc, fs]
theorem stroked_x (hP : HasTow P) (n : Nat) {k : Bool} (sv : VV) {i : Int} (hi : NoB F i) : callF P (n + 6) k "stroked" [seaV b F, sv, .int i] s = .exc (.exc "NoBoat" (.int i)) s := by
  rw [callF_run hP.stroked rfl]
  have e := towed_x (s := s) (b := b) (k := false) hP n sv hi
  have fs : fin k s (.int i) s = .ok (.int i) s := fin_same rfl
  show (exs (callF P (n + 5)) fn_stroked.body [some (seaV b F), some sv, some (.int i), none, none, none] s).bind _ = _
  simp only [fn_stroked, r_s, r_asg, r_call, r_cons, r_nil, r_var, r_get0, r_gets, r_bind, r_assoc, e, r_bindX, r_catX, r_txc, r_oxc, fs]
/-- the marks behind a row -/
def rowS (F : Sea) (f : Mk) (rs : List Nat) : Mk := rs.foldl (stroke F) f
theorem rowS_stand (ok : F.Ok) : ∀ (rs : List Nat) {f : Mk}, Stand F f → (∀ r ∈ rs, r < F.n) → Stand F (rowS F f rs)
  | [], _, st, _ => st
  | r :: rs, _, st, h => rowS_stand ok rs (stroke_stand ok st (h r List.mem_cons_self)) fun q hq => h q (List.mem_cons_of_mem _ hq)
abbrev rsV (rs : List Nat) : List VV := rs.map fun (r : Nat) => VV.int r
def rowB : List Stm := [.asg (.var 3) (.call true "stroked" [(.var 0), (.var 3), (.var 4)])]
theorem row_f (hP : HasTow P) (ok : F.Ok) (n : Nat) (v1 v2 : VV) : ∀ (rs : List Nat) (f : Mk) (o4 : Option VV), Stand F f → (∀ r ∈ rs, r < F.n) →
    ∃ o4', forL [] (stepF (callF P (n + 6)) (.var 4) rowB) (rsV rs) [some (seaV b F), some v1, some v2, some (mkV true F.n f), o4] s = .ok (.nx [some (seaV b F), some v1, some v2, some (mkV true F.n (rowS F f rs)), o4']) s
  | [], f, o4, _, _ => ⟨o4, rfl⟩
  | r :: rs, f, o4, st, h => by
    have e1 := stroked_ok (kp := true) (s := s) (b := b) (c := true) hP ok st (h r List.mem_cons_self) n
    obtain ⟨o4', e2⟩ := row_f hP ok n v1 v2 rs (stroke F f r) (some (.int r)) (stroke_stand ok st (h r List.mem_cons_self)) fun q hq => h q (List.mem_cons_of_mem _ hq)
    refine ⟨o4', ?_⟩
    have st1 : stepF (callF P (n + 6)) (.var 4) rowB (VV.int r) [some (seaV b F), some v1, some v2, some (mkV true F.n f), o4] s = .ok (.nx [some (seaV b F), some v1, some v2, some (mkV true F.n (stroke F f r)), some (.int r)]) s := by
      rw [stepF_v]
      simp only [rowB, r_bind, r_assoc, r_lift, r_noX, r_var, r_lit, r_vvn, r_vvb, r_vvi, r_vvs, r_bin, r_neg, r_no, r_conj, r_disj, r_cmp, r_chain, r_ite, r_tup, r_lst, r_idx, r_sl, r_call, r_callk, r_bi, r_bm, r_comp, r_nil, r_cons, r_and1, r_and, r_or1, r_or, r_c0, r_c1, r_range, r_zip, r_enum, r_pl, r_s0, r_s, r_tnx, r_trt, r_tbk, r_tct, r_txc, r_cat, r_asg, r_sub, r_aug, r_expr, r_ret, r_ife, r_for, r_asgv, r_asgt, r_asgl, r_asg0, r_asgc, r_mapS, r_get0, r_gets, r_set0, r_sets, r_wip0, r_wip, r_trb, r_tri, r_ii, r_add, r_subi, r_gIdx, r_dcomp, r_scomp, r_sqt, r_sql, r_sqr, r_gCmp, r_lt, r_gt, r_le, r_ge, r_eqi, r_nei, r_isN, r_isI, r_inN, r_inI, r_neg', r_at0, r_at1, r_at2, r_ort, r_onx, r_lenl, r_lent, r_lenr, r_abs, r_intb, r_inti, r_max2, r_min2, r_tupt, r_tupl, r_tupr, r_listt, r_listl, r_listr, r_p6, r_p9, r_p11, r_p18, r_mkT0, r_mkF0, r_mkM0, r_mkT1, r_mkF1, r_mkM1, r_mkT2, r_mkF2, r_mkM2, r_mkT3, r_mkF3, r_mkM3, r_mkT4, r_mkF4, r_mkM4, r_mkT5, r_mkF5, r_mkM5, r_fld, r_gfld, r_isx, r_isxE, r_isxN, r_bcnt, r_catX, r_rai, r_tryk, r_tryN, r_tryR, r_tryX, r_oxc, r_bindX, sq_t, sq_f, q_seq, q_src, q_len, q_tup, q_list, q_asg, q_pur, q_srt, q_srl, optV_n, optV_s, r_isiI, r_isiT, r_isiL, isTy_ii, isTy_ib, isTy_il, isTy_it, isTy_tt, isTy_tl, isTy_ll, any_n, any_c, r_eqs, r_nes, r_repr, r_addT, e1]
    show (if gokB s [] then (stepF _ _ _ (VV.int r) _ s).bind _ else _) = _
    rw [gokB_nil, if_pos rfl, st1]
    exact e2
theorem rowed_ok {kp d : Bool} (hP : HasTow P) (ok : F.Ok) (st : Stand F f) {rs : List Nat} (hr : ∀ r ∈ rs, r < F.n) (n : Nat) : callF P (n + 7) kp "rowed" [seaV b F, mkV c F.n f, sq d (rsV rs)] s = .ok (mkV true F.n (rowS F f rs)) s := by
  rw [callF_run hP.rowed rfl]
  have sz2 : biV true .tuple [mkV c F.n f] s = .ok (mkV true F.n f) s := by
    unfold mkV
    rw [q_tup]
    exact mkT_k (sz_of (by have := ok.few; simp; omega))
  obtain ⟨o4', fl⟩ := row_f (s := s) (b := b) hP ok n (mkV c F.n f) (sq d (rsV rs)) rs f none st hr
  unfold rowB at fl
  simp only [fn_rowed, r_bind, r_assoc, r_lift, r_noX, r_var, r_lit, r_vvn, r_vvb, r_vvi, r_vvs, r_bin, r_neg, r_no, r_conj, r_disj, r_cmp, r_chain, r_ite, r_tup, r_lst, r_idx, r_sl, r_call, r_callk, r_bi, r_bm, r_comp, r_nil, r_cons, r_and1, r_and, r_or1, r_or, r_c0, r_c1, r_range, r_zip, r_enum, r_pl, r_s0, r_s, r_tnx, r_trt, r_tbk, r_tct, r_txc, r_cat, r_asg, r_sub, r_aug, r_expr, r_ret, r_ife, r_for, r_asgv, r_asgt, r_asgl, r_asg0, r_asgc, r_mapS, r_get0, r_gets, r_set0, r_sets, r_wip0, r_wip, r_trb, r_tri, r_ii, r_add, r_subi, r_gIdx, r_dcomp, r_scomp, r_sqt, r_sql, r_sqr, r_gCmp, r_lt, r_gt, r_le, r_ge, r_eqi, r_nei, r_isN, r_isI, r_inN, r_inI, r_neg', r_at0, r_at1, r_at2, r_ort, r_onx, r_lenl, r_lent, r_lenr, r_abs, r_intb, r_inti, r_max2, r_min2, r_tupt, r_tupl, r_tupr, r_listt, r_listl, r_listr, r_p6, r_p9, r_p11, r_p18, r_mkT0, r_mkF0, r_mkM0, r_mkT1, r_mkF1, r_mkM1, r_mkT2, r_mkF2, r_mkM2, r_mkT3, r_mkF3, r_mkM3, r_mkT4, r_mkF4, r_mkM4, r_mkT5, r_mkF5, r_mkM5, r_fld, r_gfld, r_isx, r_isxE, r_isxN, r_bcnt, r_catX, r_rai, r_tryk, r_tryN, r_tryR, r_tryX, r_oxc, r_bindX, sq_t, sq_f, q_seq, q_src, q_len, q_tup, q_list, q_asg, q_pur, q_srt, q_srl, optV_n, optV_s, r_isiI, r_isiT, r_isiL, isTy_ii, isTy_ib, isTy_il, isTy_it, isTy_tt, isTy_tl, isTy_ll, any_n, any_c, r_eqs, r_nes, r_repr, r_addT, List.map_cons, List.map_nil, List.replicate, List.cons_append, List.nil_append, Nat.reduceSub, sz2, fl]
  exact fin_same (mkV_pur _ _ _)
/-- one stroke, then of a boat that isn't there -/
theorem rowed_x (hP : HasTow P) (ok : F.Ok) (st : Stand F f) {r : Nat} (hr : r < F.n) (n : Nat) {k : Bool} {i : Int} (hi : NoB F i) (r2 : List VV) : callF P (n + 7) k "rowed" [seaV b F, mkV c F.n f, .lst (.int r :: .int i :: r2)] s = .exc (.exc "NoBoat" (.int i)) s := by
  rw [callF_run hP.rowed rfl]
  have e1 := stroked_ok (kp := true) (s := s) (b := b) (c := true) hP ok st hr n
  have e2 := stroked_x (s := s) (b := b) (k := true) hP n (mkV true F.n (stroke F f r)) hi
  have fs : fin k s (.int i) s = .ok (.int i) s := fin_same rfl
  have sz2 : biV true .tuple [mkV c F.n f] s = .ok (mkV true F.n f) s := by
    unfold mkV
    rw [q_tup]
    exact mkT_k (sz_of (by have := ok.few; simp; omega))
  have fl : ∃ o, forL [] (stepF (callF P (n + 6)) (.var 4) rowB) (.int r :: .int i :: r2) [some (seaV b F), some (mkV c F.n f), some (.lst (.int r :: .int i :: r2)), some (mkV true F.n f), none] s = .ok (.xc (.exc "NoBoat" (.int i)) o) s := by
    have st1 : stepF (callF P (n + 6)) (.var 4) rowB (VV.int r) [some (seaV b F), some (mkV c F.n f), some (.lst (.int r :: .int i :: r2)), some (mkV true F.n f), none] s = .ok (.nx [some (seaV b F), some (mkV c F.n f), some (.lst (.int r :: .int i :: r2)), some (mkV true F.n (stroke F f r)), some (.int r)]) s := by
      rw [stepF_v]
      simp only [rowB, r_bind, r_assoc, r_lift, r_noX, r_var, r_lit, r_vvn, r_vvb, r_vvi, r_vvs, r_bin, r_neg, r_no, r_conj, r_disj, r_cmp, r_chain, r_ite, r_tup, r_lst, r_idx, r_sl, r_call, r_callk, r_bi, r_bm, r_comp, r_nil, r_cons, r_and1, r_and, r_or1, r_or, r_c0, r_c1, r_range, r_zip, r_enum, r_pl, r_s0, r_s, r_tnx, r_trt, r_tbk, r_tct, r_txc, r_cat, r_asg, r_sub, r_aug, r_expr, r_ret, r_ife, r_for, r_asgv, r_asgt, r_asgl, r_asg0, r_asgc, r_mapS, r_get0, r_gets, r_set0, r_sets, r_wip0, r_wip, r_trb, r_tri, r_ii, r_add, r_subi, r_gIdx, r_dcomp, r_scomp, r_sqt, r_sql, r_sqr, r_gCmp, r_lt, r_gt, r_le, r_ge, r_eqi, r_nei, r_isN, r_isI, r_inN, r_inI, r_neg', r_at0, r_at1, r_at2, r_ort, r_onx, r_lenl, r_lent, r_lenr, r_abs, r_intb, r_inti, r_max2, r_min2, r_tupt, r_tupl, r_tupr, r_listt, r_listl, r_listr, r_p6, r_p9, r_p11, r_p18, r_mkT0, r_mkF0, r_mkM0, r_mkT1, r_mkF1, r_mkM1, r_mkT2, r_mkF2, r_mkM2, r_mkT3, r_mkF3, r_mkM3, r_mkT4, r_mkF4, r_mkM4, r_mkT5, r_mkF5, r_mkM5, r_fld, r_gfld, r_isx, r_isxE, r_isxN, r_bcnt, r_catX, r_rai, r_tryk, r_tryN, r_tryR, r_tryX, r_oxc, r_bindX, sq_t, sq_f, q_seq, q_src, q_len, q_tup, q_list, q_asg, q_pur, q_srt, q_srl, optV_n, optV_s, r_isiI, r_isiT, r_isiL, isTy_ii, isTy_ib, isTy_il, isTy_it, isTy_tt, isTy_tl, isTy_ll, any_n, any_c, r_eqs, r_nes, r_repr, r_addT, e1]
    have st2 : stepF (callF P (n + 6)) (.var 4) rowB (VV.int i) [some (seaV b F), some (mkV c F.n f), some (.lst (.int r :: .int i :: r2)), some (mkV true F.n (stroke F f r)), some (.int r)] s = .ok (.xc (.exc "NoBoat" (.int i)) [some (seaV b F), some (mkV c F.n f), some (.lst (.int r :: .int i :: r2)), some (mkV true F.n (stroke F f r)), some (.int i)]) s := by
      rw [stepF_v]
      simp only [rowB, r_bind, r_assoc, r_lift, r_noX, r_var, r_lit, r_vvn, r_vvb, r_vvi, r_vvs, r_bin, r_neg, r_no, r_conj, r_disj, r_cmp, r_chain, r_ite, r_tup, r_lst, r_idx, r_sl, r_call, r_callk, r_bi, r_bm, r_comp, r_nil, r_cons, r_and1, r_and, r_or1, r_or, r_c0, r_c1, r_range, r_zip, r_enum, r_pl, r_s0, r_s, r_tnx, r_trt, r_tbk, r_tct, r_txc, r_cat, r_asg, r_sub, r_aug, r_expr, r_ret, r_ife, r_for, r_asgv, r_asgt, r_asgl, r_asg0, r_asgc, r_mapS, r_get0, r_gets, r_set0, r_sets, r_wip0, r_wip, r_trb, r_tri, r_ii, r_add, r_subi, r_gIdx, r_dcomp, r_scomp, r_sqt, r_sql, r_sqr, r_gCmp, r_lt, r_gt, r_le, r_ge, r_eqi, r_nei, r_isN, r_isI, r_inN, r_inI, r_neg', r_at0, r_at1, r_at2, r_ort, r_onx, r_lenl, r_lent, r_lenr, r_abs, r_intb, r_inti, r_max2, r_min2, r_tupt, r_tupl, r_tupr, r_listt, r_listl, r_listr, r_p6, r_p9, r_p11, r_p18, r_mkT0, r_mkF0, r_mkM0, r_mkT1, r_mkF1, r_mkM1, r_mkT2, r_mkF2, r_mkM2, r_mkT3, r_mkF3, r_mkM3, r_mkT4, r_mkF4, r_mkM4, r_mkT5, r_mkF5, r_mkM5, r_fld, r_gfld, r_isx, r_isxE, r_isxN, r_bcnt, r_catX, r_rai, r_tryk, r_tryN, r_tryR, r_tryX, r_oxc, r_bindX, sq_t, sq_f, q_seq, q_src, q_len, q_tup, q_list, q_asg, q_pur, q_srt, q_srl, optV_n, optV_s, r_isiI, r_isiT, r_isiL, isTy_ii, isTy_ib, isTy_il, isTy_it, isTy_tt, isTy_tl, isTy_ll, any_n, any_c, r_eqs, r_nes, r_repr, r_addT, e2]
    refine ⟨[some (seaV b F), some (mkV c F.n f), some (.lst (.int r :: .int i :: r2)), some (mkV true F.n (stroke F f r)), some (.int i)], ?_⟩
    show (if gokB s [] then (stepF _ _ _ (VV.int r) _ s).bind _ else _) = _
    rw [gokB_nil, if_pos rfl, st1]
    show (if gokB s [] then (stepF _ _ _ (VV.int i) _ s).bind _ else Out.bad) = _
    rw [gokB_nil, if_pos rfl, st2]
    rfl
  obtain ⟨o, fl⟩ := fl
  unfold rowB at fl
  have sr : srcOf s (.lst (.int r :: .int i :: r2)) = some (.int r :: .int i :: r2, []) := rfl
  simp only [fn_rowed, r_bind, r_assoc, r_lift, r_noX, r_var, r_lit, r_vvn, r_vvb, r_vvi, r_vvs, r_bin, r_neg, r_no, r_conj, r_disj, r_cmp, r_chain, r_ite, r_tup, r_lst, r_idx, r_sl, r_call, r_callk, r_bi, r_bm, r_comp, r_nil, r_cons, r_and1, r_and, r_or1, r_or, r_c0, r_c1, r_range, r_zip, r_enum, r_pl, r_s0, r_s, r_tnx, r_trt, r_tbk, r_tct, r_txc, r_cat, r_asg, r_sub, r_aug, r_expr, r_ret, r_ife, r_for, r_asgv, r_asgt, r_asgl, r_asg0, r_asgc, r_mapS, r_get0, r_gets, r_set0, r_sets, r_wip0, r_wip, r_trb, r_tri, r_ii, r_add, r_subi, r_gIdx, r_dcomp, r_scomp, r_sqt, r_sql, r_sqr, r_gCmp, r_lt, r_gt, r_le, r_ge, r_eqi, r_nei, r_isN, r_isI, r_inN, r_inI, r_neg', r_at0, r_at1, r_at2, r_ort, r_onx, r_lenl, r_lent, r_lenr, r_abs, r_intb, r_inti, r_max2, r_min2, r_tupt, r_tupl, r_tupr, r_listt, r_listl, r_listr, r_p6, r_p9, r_p11, r_p18, r_mkT0, r_mkF0, r_mkM0, r_mkT1, r_mkF1, r_mkM1, r_mkT2, r_mkF2, r_mkM2, r_mkT3, r_mkF3, r_mkM3, r_mkT4, r_mkF4, r_mkM4, r_mkT5, r_mkF5, r_mkM5, r_fld, r_gfld, r_isx, r_isxE, r_isxN, r_bcnt, r_catX, r_rai, r_tryk, r_tryN, r_tryR, r_tryX, r_oxc, r_bindX, sq_t, sq_f, q_seq, q_src, q_len, q_tup, q_list, q_asg, q_pur, q_srt, q_srl, optV_n, optV_s, r_isiI, r_isiT, r_isiL, isTy_ii, isTy_ib, isTy_il, isTy_it, isTy_tt, isTy_tl, isTy_ll, any_n, any_c, r_eqs, r_nes, r_repr, r_addT, List.map_cons, List.map_nil, List.replicate, List.cons_append, List.nil_append, Nat.reduceSub, sz2, sr, fl, fs]
/-- how many strokes of the row are each one's -/
abbrev cntL (F : Sea) (rs : List Nat) : List VV := (List.range F.n).map fun (j : Nat) => VV.int (rs.count j : Nat)
def lookB : List Stm := [.expr (.call false "look_boat" [(.var 0), (.var 2)])]
theorem look_f (hP : HasTow P) (n : Nat) (v1 : VV) : ∀ (rs : List Nat) (o2 : Option VV), (∀ r ∈ rs, r < F.n) →
    ∃ o2', forL [] (stepF (callF P (n + 4)) (.var 2) lookB) (rsV rs) [some (seaV b F), some v1, o2, none] s = .ok (.nx [some (seaV b F), some v1, o2', none]) s
  | [], o2, _ => ⟨o2, rfl⟩
  | r :: rs, o2, h => by
    have e1 := lookb_ok (s := s) (b := b) hP.number hP.count hP.boat hP.look n (h r List.mem_cons_self)
    obtain ⟨o2', e2⟩ := look_f hP n v1 rs (some (.int r)) fun q hq => h q (List.mem_cons_of_mem _ hq)
    refine ⟨o2', ?_⟩
    have st1 : stepF (callF P (n + 4)) (.var 2) lookB (VV.int r) [some (seaV b F), some v1, o2, none] s = .ok (.nx [some (seaV b F), some v1, some (.int r), none]) s := by
      rw [stepF_v]
      simp only [lookB, r_bind, r_assoc, r_lift, r_noX, r_var, r_lit, r_vvn, r_vvb, r_vvi, r_vvs, r_bin, r_neg, r_no, r_conj, r_disj, r_cmp, r_chain, r_ite, r_tup, r_lst, r_idx, r_sl, r_call, r_callk, r_bi, r_bm, r_comp, r_nil, r_cons, r_and1, r_and, r_or1, r_or, r_c0, r_c1, r_range, r_zip, r_enum, r_pl, r_s0, r_s, r_tnx, r_trt, r_tbk, r_tct, r_txc, r_cat, r_asg, r_sub, r_aug, r_expr, r_ret, r_ife, r_for, r_asgv, r_asgt, r_asgl, r_asg0, r_asgc, r_mapS, r_get0, r_gets, r_set0, r_sets, r_wip0, r_wip, r_trb, r_tri, r_ii, r_add, r_subi, r_gIdx, r_dcomp, r_scomp, r_sqt, r_sql, r_sqr, r_gCmp, r_lt, r_gt, r_le, r_ge, r_eqi, r_nei, r_isN, r_isI, r_inN, r_inI, r_neg', r_at0, r_at1, r_at2, r_ort, r_onx, r_lenl, r_lent, r_lenr, r_abs, r_intb, r_inti, r_max2, r_min2, r_tupt, r_tupl, r_tupr, r_listt, r_listl, r_listr, r_p6, r_p9, r_p11, r_p18, r_mkT0, r_mkF0, r_mkM0, r_mkT1, r_mkF1, r_mkM1, r_mkT2, r_mkF2, r_mkM2, r_mkT3, r_mkF3, r_mkM3, r_mkT4, r_mkF4, r_mkM4, r_mkT5, r_mkF5, r_mkM5, r_fld, r_gfld, r_isx, r_isxE, r_isxN, r_bcnt, r_catX, r_rai, r_tryk, r_tryN, r_tryR, r_tryX, r_oxc, r_bindX, sq_t, sq_f, q_seq, q_src, q_len, q_tup, q_list, q_asg, q_pur, q_srt, q_srl, optV_n, optV_s, r_isiI, r_isiT, r_isiL, isTy_ii, isTy_ib, isTy_il, isTy_it, isTy_tt, isTy_tl, isTy_ll, any_n, any_c, r_eqs, r_nes, r_repr, r_addT, e1]
    show (if gokB s [] then (stepF _ _ _ (VV.int r) _ s).bind _ else _) = _
    rw [gokB_nil, if_pos rfl, st1]
    exact e2
theorem strokes_e {d : Bool} (hP : HasTow P) (ok : F.Ok) {rs : List Nat} (hr : ∀ r ∈ rs, r < F.n) (hl : rs.length ≤ szL) (n : Nat) : exs (callF P (n + 4)) fn_strokes_of.body [some (seaV b F), some (sq d (rsV rs)), none, none] s = .ok (.rt (.ref s.length)) (s ++ [.lst (cntL F rs)]) := by
  obtain ⟨o2', fl⟩ := look_f (s := s) (b := b) hP n (sq d (rsV rs)) rs none hr
  unfold lookB at fl
  have sv : seqOf s (seaV b F) = some [.int F.n, sq b (F.ropes.map (ropeV b))] := q_seq
  have few := ok.few
  have g1 : (F.n : Int) < 65 := by omega
  have g : gRange [VV.int F.n] s = .ok ((List.range F.n).map fun (j : Nat) => VV.int j, []) s := rng_nat (Int.lt_trans g1 (by decide))
  have c1 : compL [] (stepC (callF P (n + 4)) (.bi false .len [(.comp false (.var 2) (.var 2) (.pl (.var 1)) [(.cmp .eq (.var 2) (.var 3))] [2])]) (.var 3) [] [3] [some (seaV b F), some (sq d (rsV rs)), o2', none])
      ((List.range F.n).map fun (j : Nat) => VV.int j) s = .ok (cntL F rs) s := compL_map rfl fun j hj => by
    have c2 : compL [] (stepC (callF P (n + 4)) (.var 2) (.var 2) [(.cmp .eq (.var 2) (.var 3))] [2] [some (seaV b F), some (sq d (rsV rs)), o2', some (.int j)]) (rsV rs) s = .ok ((rs.filter fun (r : Nat) => decide ((r : Int) = (j : Int))).map fun (r : Nat) => VV.int r) s := compL_fm rfl fun r hr => by
      simp only [stepC, r_bind, r_assoc, r_lift, r_noX, r_var, r_lit, r_vvn, r_vvb, r_vvi, r_vvs, r_bin, r_neg, r_no, r_conj, r_disj, r_cmp, r_chain, r_ite, r_tup, r_lst, r_idx, r_sl, r_call, r_callk, r_bi, r_bm, r_comp, r_nil, r_cons, r_and1, r_and, r_or1, r_or, r_c0, r_c1, r_range, r_zip, r_enum, r_pl, r_s0, r_s, r_tnx, r_trt, r_tbk, r_tct, r_txc, r_cat, r_asg, r_sub, r_aug, r_expr, r_ret, r_ife, r_for, r_asgv, r_asgt, r_asgl, r_asg0, r_asgc, r_mapS, r_get0, r_gets, r_set0, r_sets, r_wip0, r_wip, r_trb, r_tri, r_ii, r_add, r_subi, r_gIdx, r_dcomp, r_scomp, r_sqt, r_sql, r_sqr, r_gCmp, r_lt, r_gt, r_le, r_ge, r_eqi, r_nei, r_isN, r_isI, r_inN, r_inI, r_neg', r_at0, r_at1, r_at2, r_ort, r_onx, r_lenl, r_lent, r_lenr, r_abs, r_intb, r_inti, r_max2, r_min2, r_tupt, r_tupl, r_tupr, r_listt, r_listl, r_listr, r_p6, r_p9, r_p11, r_p18, r_mkT0, r_mkF0, r_mkM0, r_mkT1, r_mkF1, r_mkM1, r_mkT2, r_mkF2, r_mkM2, r_mkT3, r_mkF3, r_mkM3, r_mkT4, r_mkF4, r_mkM4, r_mkT5, r_mkF5, r_mkM5, r_fld, r_gfld, r_isx, r_isxE, r_isxN, r_bcnt, r_catX, r_rai, r_tryk, r_tryN, r_tryR, r_tryX, r_oxc, r_bindX, sq_t, sq_f, q_seq, q_src, q_len, q_tup, q_list, q_asg, q_pur, q_srt, q_srl, optV_n, optV_s, r_isiI, r_isiT, r_isiL, isTy_ii, isTy_ib, isTy_il, isTy_it, isTy_tt, isTy_tl, isTy_ll, any_n, any_c, r_eqs, r_nes, r_repr, r_addT]
      by_cases h : (r : Int) = (j : Int)
      · simp only [h, decide_true, if_true]
      · simp only [h, decide_false, if_false, Bool.false_eq_true]
    have k1 : mkL false ((rs.filter fun (r : Nat) => decide ((r : Int) = (j : Int))).map fun (r : Nat) => VV.int r) s = .ok (.lst ((rs.filter fun (r : Nat) => decide ((r : Int) = (j : Int))).map fun (r : Nat) => VV.int r)) s := mkL_f (by
      rw [List.length_map]
      exact Nat.le_trans (List.length_filter_le _ _) hl)
    have ln : ((rs.filter fun (r : Nat) => decide ((r : Int) = (j : Int))).map fun (r : Nat) => VV.int r).length = rs.count j := by
      rw [List.length_map, List.count, List.countP_eq_length_filter]
      refine congrArg List.length (List.filter_congr fun x _ => ?_)
      by_cases h : x = j
      · rw [h]
        simp
      · rw [beq_eq_false_iff_ne.mpr h, decide_eq_false fun z => h (Int.ofNat_inj.mp z)]
    have l2 : biV false .len [VV.lst ((rs.filter fun (r : Nat) => decide ((r : Int) = (j : Int))).map fun (r : Nat) => VV.int r)] s = .ok (.int (rs.count j : Nat)) s := by
      show lift ((seqOf s (VV.lst ((rs.filter fun (r : Nat) => decide ((r : Int) = (j : Int))).map fun (r : Nat) => VV.int r))).map fun xs => VV.int xs.length) s = _
      rw [show seqOf s (VV.lst ((rs.filter fun (r : Nat) => decide ((r : Int) = (j : Int))).map fun (r : Nat) => VV.int r)) = some ((rs.filter fun (r : Nat) => decide ((r : Int) = (j : Int))).map fun (r : Nat) => VV.int r) from rfl, Option.map_some, ln]
      rfl
    simp only [stepC, r_bind, r_assoc, r_lift, r_noX, r_var, r_lit, r_vvn, r_vvb, r_vvi, r_vvs, r_bin, r_neg, r_no, r_conj, r_disj, r_cmp, r_chain, r_ite, r_tup, r_lst, r_idx, r_sl, r_call, r_callk, r_bi, r_bm, r_comp, r_nil, r_cons, r_and1, r_and, r_or1, r_or, r_c0, r_c1, r_range, r_zip, r_enum, r_pl, r_s0, r_s, r_tnx, r_trt, r_tbk, r_tct, r_txc, r_cat, r_asg, r_sub, r_aug, r_expr, r_ret, r_ife, r_for, r_asgv, r_asgt, r_asgl, r_asg0, r_asgc, r_mapS, r_get0, r_gets, r_set0, r_sets, r_wip0, r_wip, r_trb, r_tri, r_ii, r_add, r_subi, r_gIdx, r_dcomp, r_scomp, r_sqt, r_sql, r_sqr, r_gCmp, r_lt, r_gt, r_le, r_ge, r_eqi, r_nei, r_isN, r_isI, r_inN, r_inI, r_neg', r_at0, r_at1, r_at2, r_ort, r_onx, r_lenl, r_lent, r_lenr, r_abs, r_intb, r_inti, r_max2, r_min2, r_tupt, r_tupl, r_tupr, r_listt, r_listl, r_listr, r_p6, r_p9, r_p11, r_p18, r_mkT0, r_mkF0, r_mkM0, r_mkT1, r_mkF1, r_mkM1, r_mkT2, r_mkF2, r_mkM2, r_mkT3, r_mkF3, r_mkM3, r_mkT4, r_mkF4, r_mkM4, r_mkT5, r_mkF5, r_mkM5, r_fld, r_gfld, r_isx, r_isxE, r_isxN, r_bcnt, r_catX, r_rai, r_tryk, r_tryN, r_tryR, r_tryX, r_oxc, r_bindX, sq_t, sq_f, q_seq, q_src, q_len, q_tup, q_list, q_asg, q_pur, q_srt, q_srl, optV_n, optV_s, r_isiI, r_isiT, r_isiL, isTy_ii, isTy_ib, isTy_il, isTy_it, isTy_tt, isTy_tl, isTy_ll, any_n, any_c, r_eqs, r_nes, r_repr, r_addT, c2, k1, l2, if_true]
  have k2 : mkL true (cntL F rs) s = .ok (.ref s.length) (s ++ [.lst (cntL F rs)]) := mkL_t (sz_of (by simp; omega))
  simp only [fn_strokes_of, r_bind, r_assoc, r_lift, r_noX, r_var, r_lit, r_vvn, r_vvb, r_vvi, r_vvs, r_bin, r_neg, r_no, r_conj, r_disj, r_cmp, r_chain, r_ite, r_tup, r_lst, r_idx, r_sl, r_call, r_callk, r_bi, r_bm, r_comp, r_nil, r_cons, r_and1, r_and, r_or1, r_or, r_c0, r_c1, r_range, r_zip, r_enum, r_pl, r_s0, r_s, r_tnx, r_trt, r_tbk, r_tct, r_txc, r_cat, r_asg, r_sub, r_aug, r_expr, r_ret, r_ife, r_for, r_asgv, r_asgt, r_asgl, r_asg0, r_asgc, r_mapS, r_get0, r_gets, r_set0, r_sets, r_wip0, r_wip, r_trb, r_tri, r_ii, r_add, r_subi, r_gIdx, r_dcomp, r_scomp, r_sqt, r_sql, r_sqr, r_gCmp, r_lt, r_gt, r_le, r_ge, r_eqi, r_nei, r_isN, r_isI, r_inN, r_inI, r_neg', r_at0, r_at1, r_at2, r_ort, r_onx, r_lenl, r_lent, r_lenr, r_abs, r_intb, r_inti, r_max2, r_min2, r_tupt, r_tupl, r_tupr, r_listt, r_listl, r_listr, r_p6, r_p9, r_p11, r_p18, r_mkT0, r_mkF0, r_mkM0, r_mkT1, r_mkF1, r_mkM1, r_mkT2, r_mkF2, r_mkM2, r_mkT3, r_mkF3, r_mkM3, r_mkT4, r_mkF4, r_mkM4, r_mkT5, r_mkF5, r_mkM5, r_fld, r_gfld, r_isx, r_isxE, r_isxN, r_bcnt, r_catX, r_rai, r_tryk, r_tryN, r_tryR, r_tryX, r_oxc, r_bindX, sq_t, sq_f, q_seq, q_src, q_len, q_tup, q_list, q_asg, q_pur, q_srt, q_srl, optV_n, optV_s, r_isiI, r_isiT, r_isiL, isTy_ii, isTy_ib, isTy_il, isTy_it, isTy_tt, isTy_tl, isTy_ll, any_n, any_c, r_eqs, r_nes, r_repr, r_addT, fl, sv, g, c1, k2]
theorem strokes_ok {d : Bool} (hS : P "strokes_of" = some fn_strokes_of) (hP : HasTow P) (ok : F.Ok) {rs : List Nat} (hr : ∀ r ∈ rs, r < F.n) (hl : rs.length ≤ szL) (n : Nat) : callF P (n + 5) false "strokes_of" [seaV b F, sq d (rsV rs)] s = .ok (.lst (cntL F rs)) s := by
  rw [callF_run hS rfl]
  show (exs (callF P (n + 4)) fn_strokes_of.body [some (seaV b F), some (sq d (rsV rs)), none, none] s).bind _ = _
  rw [strokes_e hP ok hr hl n]
  exact fin_new (purs_map fun _ _ => rfl)
theorem strokes_x (hS : P "strokes_of" = some fn_strokes_of) (hP : HasTow P) {r : Nat} (hr : r < F.n) (n : Nat) {k : Bool} {i : Int} (hi : NoB F i) (r2 : List VV) : callF P (n + 5) k "strokes_of" [seaV b F, .lst (.int r :: .int i :: r2)] s = .exc (.exc "NoBoat" (.int i)) s := by
  rw [callF_run hS rfl]
  have e1 := lookb_ok (s := s) (b := b) hP.number hP.count hP.boat hP.look n hr
  have e2 := look_x (s := s) (b := b) (k := false) hP.number hP.count hP.boat hP.look n hi
  have fs : fin k s (.int i) s = .ok (.int i) s := fin_same rfl
  have fl : ∃ o, forL [] (stepF (callF P (n + 4)) (.var 2) lookB) (.int r :: .int i :: r2) [some (seaV b F), some (.lst (.int r :: .int i :: r2)), none, none] s = .ok (.xc (.exc "NoBoat" (.int i)) o) s := by
    have st1 : stepF (callF P (n + 4)) (.var 2) lookB (VV.int r) [some (seaV b F), some (.lst (.int r :: .int i :: r2)), none, none] s = .ok (.nx [some (seaV b F), some (.lst (.int r :: .int i :: r2)), some (.int r), none]) s := by
      rw [stepF_v]
      simp only [lookB, r_bind, r_assoc, r_lift, r_noX, r_var, r_lit, r_vvn, r_vvb, r_vvi, r_vvs, r_bin, r_neg, r_no, r_conj, r_disj, r_cmp, r_chain, r_ite, r_tup, r_lst, r_idx, r_sl, r_call, r_callk, r_bi, r_bm, r_comp, r_nil, r_cons, r_and1, r_and, r_or1, r_or, r_c0, r_c1, r_range, r_zip, r_enum, r_pl, r_s0, r_s, r_tnx, r_trt, r_tbk, r_tct, r_txc, r_cat, r_asg, r_sub, r_aug, r_expr, r_ret, r_ife, r_for, r_asgv, r_asgt, r_asgl, r_asg0, r_asgc, r_mapS, r_get0, r_gets, r_set0, r_sets, r_wip0, r_wip, r_trb, r_tri, r_ii, r_add, r_subi, r_gIdx, r_dcomp, r_scomp, r_sqt, r_sql, r_sqr, r_gCmp, r_lt, r_gt, r_le, r_ge, r_eqi, r_nei, r_isN, r_isI, r_inN, r_inI, r_neg', r_at0, r_at1, r_at2, r_ort, r_onx, r_lenl, r_lent, r_lenr, r_abs, r_intb, r_inti, r_max2, r_min2, r_tupt, r_tupl, r_tupr, r_listt, r_listl, r_listr, r_p6, r_p9, r_p11, r_p18, r_mkT0, r_mkF0, r_mkM0, r_mkT1, r_mkF1, r_mkM1, r_mkT2, r_mkF2, r_mkM2, r_mkT3, r_mkF3, r_mkM3, r_mkT4, r_mkF4, r_mkM4, r_mkT5, r_mkF5, r_mkM5, r_fld, r_gfld, r_isx, r_isxE, r_isxN, r_bcnt, r_catX, r_rai, r_tryk, r_tryN, r_tryR, r_tryX, r_oxc, r_bindX, sq_t, sq_f, q_seq, q_src, q_len, q_tup, q_list, q_asg, q_pur, q_srt, q_srl, optV_n, optV_s, r_isiI, r_isiT, r_isiL, isTy_ii, isTy_ib, isTy_il, isTy_it, isTy_tt, isTy_tl, isTy_ll, any_n, any_c, r_eqs, r_nes, r_repr, r_addT, e1]
    have st2 : stepF (callF P (n + 4)) (.var 2) lookB (VV.int i) [some (seaV b F), some (.lst (.int r :: .int i :: r2)), some (.int r), none] s = .ok (.xc (.exc "NoBoat" (.int i)) [some (seaV b F), some (.lst (.int r :: .int i :: r2)), some (.int i), none]) s := by
      rw [stepF_v]
      simp only [lookB, r_bind, r_assoc, r_lift, r_noX, r_var, r_lit, r_vvn, r_vvb, r_vvi, r_vvs, r_bin, r_neg, r_no, r_conj, r_disj, r_cmp, r_chain, r_ite, r_tup, r_lst, r_idx, r_sl, r_call, r_callk, r_bi, r_bm, r_comp, r_nil, r_cons, r_and1, r_and, r_or1, r_or, r_c0, r_c1, r_range, r_zip, r_enum, r_pl, r_s0, r_s, r_tnx, r_trt, r_tbk, r_tct, r_txc, r_cat, r_asg, r_sub, r_aug, r_expr, r_ret, r_ife, r_for, r_asgv, r_asgt, r_asgl, r_asg0, r_asgc, r_mapS, r_get0, r_gets, r_set0, r_sets, r_wip0, r_wip, r_trb, r_tri, r_ii, r_add, r_subi, r_gIdx, r_dcomp, r_scomp, r_sqt, r_sql, r_sqr, r_gCmp, r_lt, r_gt, r_le, r_ge, r_eqi, r_nei, r_isN, r_isI, r_inN, r_inI, r_neg', r_at0, r_at1, r_at2, r_ort, r_onx, r_lenl, r_lent, r_lenr, r_abs, r_intb, r_inti, r_max2, r_min2, r_tupt, r_tupl, r_tupr, r_listt, r_listl, r_listr, r_p6, r_p9, r_p11, r_p18, r_mkT0, r_mkF0, r_mkM0, r_mkT1, r_mkF1, r_mkM1, r_mkT2, r_mkF2, r_mkM2, r_mkT3, r_mkF3, r_mkM3, r_mkT4, r_mkF4, r_mkM4, r_mkT5, r_mkF5, r_mkM5, r_fld, r_gfld, r_isx, r_isxE, r_isxN, r_bcnt, r_catX, r_rai, r_tryk, r_tryN, r_tryR, r_tryX, r_oxc, r_bindX, sq_t, sq_f, q_seq, q_src, q_len, q_tup, q_list, q_asg, q_pur, q_srt, q_srl, optV_n, optV_s, r_isiI, r_isiT, r_isiL, isTy_ii, isTy_ib, isTy_il, isTy_it, isTy_tt, isTy_tl, isTy_ll, any_n, any_c, r_eqs, r_nes, r_repr, r_addT, e2]
    refine ⟨[some (seaV b F), some (.lst (.int r :: .int i :: r2)), some (.int i), none], ?_⟩
    show (if gokB s [] then (stepF _ _ _ (VV.int r) _ s).bind _ else _) = _
    rw [gokB_nil, if_pos rfl, st1]
    show (if gokB s [] then (stepF _ _ _ (VV.int i) _ s).bind _ else Out.bad) = _
    rw [gokB_nil, if_pos rfl, st2]
    rfl
  obtain ⟨o, fl⟩ := fl
  unfold lookB at fl
  have sr : srcOf s (.lst (.int r :: .int i :: r2)) = some (.int r :: .int i :: r2, []) := rfl
  show (exs (callF P (n + 4)) fn_strokes_of.body [some (seaV b F), some (.lst (.int r :: .int i :: r2)), none, none] s).bind _ = _
  simp only [fn_strokes_of, r_bind, r_assoc, r_lift, r_noX, r_var, r_lit, r_vvn, r_vvb, r_vvi, r_vvs, r_bin, r_neg, r_no, r_conj, r_disj, r_cmp, r_chain, r_ite, r_tup, r_lst, r_idx, r_sl, r_call, r_callk, r_bi, r_bm, r_comp, r_nil, r_cons, r_and1, r_and, r_or1, r_or, r_c0, r_c1, r_range, r_zip, r_enum, r_pl, r_s0, r_s, r_tnx, r_trt, r_tbk, r_tct, r_txc, r_cat, r_asg, r_sub, r_aug, r_expr, r_ret, r_ife, r_for, r_asgv, r_asgt, r_asgl, r_asg0, r_asgc, r_mapS, r_get0, r_gets, r_set0, r_sets, r_wip0, r_wip, r_trb, r_tri, r_ii, r_add, r_subi, r_gIdx, r_dcomp, r_scomp, r_sqt, r_sql, r_sqr, r_gCmp, r_lt, r_gt, r_le, r_ge, r_eqi, r_nei, r_isN, r_isI, r_inN, r_inI, r_neg', r_at0, r_at1, r_at2, r_ort, r_onx, r_lenl, r_lent, r_lenr, r_abs, r_intb, r_inti, r_max2, r_min2, r_tupt, r_tupl, r_tupr, r_listt, r_listl, r_listr, r_p6, r_p9, r_p11, r_p18, r_mkT0, r_mkF0, r_mkM0, r_mkT1, r_mkF1, r_mkM1, r_mkT2, r_mkF2, r_mkM2, r_mkT3, r_mkF3, r_mkM3, r_mkT4, r_mkF4, r_mkM4, r_mkT5, r_mkF5, r_mkM5, r_fld, r_gfld, r_isx, r_isxE, r_isxN, r_bcnt, r_catX, r_rai, r_tryk, r_tryN, r_tryR, r_tryX, r_oxc, r_bindX, sq_t, sq_f, q_seq, q_src, q_len, q_tup, q_list, q_asg, q_pur, q_srt, q_srl, optV_n, optV_s, r_isiI, r_isiT, r_isiL, isTy_ii, isTy_ib, isTy_il, isTy_it, isTy_tt, isTy_tl, isTy_ll, any_n, any_c, r_eqs, r_nes, r_repr, r_addT, sr, fl, fs]
end
end Tw
set_option Elab.async false
set_option linter.all false
set_option autoImplicit false
set_option maxRecDepth 100000
/-! LibGoing: a law's own going on by taut lines. -/
namespace Tw
open PySem (PyData)
def gStep (G : List Int) (q : Rope) : List Int := if (q.1 : Int) ∈ G ∧ (q.2.1 : Int) ∉ G then G ++ [(q.2.1 : Int)] else G
def gPass (T : List Rope) (G : List Int) : List Int := T.foldl gStep G
theorem gStep_len (G : List Int) (q : Rope) : G.length ≤ (gStep G q).length := by
  unfold gStep
  split
  · simp
  · exact Nat.le_refl _
theorem gPass_len : ∀ (T : List Rope) (G : List Int), G.length ≤ (gPass T G).length
  | [], _ => Nat.le_refl _
  | q :: T, G => Nat.le_trans (gStep_len G q) (gPass_len T (gStep G q))
theorem gPass_same : ∀ {T : List Rope} {G : List Int}, (gPass T G).length = G.length → gPass T G = G ∧ ∀ q ∈ T, (q.1 : Int) ∈ G → (q.2.1 : Int) ∈ G
  | [], _, _ => ⟨rfl, by simp⟩
  | q :: T, G, h => by
    have h1 := gStep_len G q
    have h2 := gPass_len T (gStep G q)
    have h : (gPass T (gStep G q)).length = G.length := h
    have e : gStep G q = G ∧ ((q.1 : Int) ∈ G → (q.2.1 : Int) ∈ G) := by
      unfold gStep at h1 h2 h ⊢
      split
      · rename_i hc
        rw [if_pos hc, List.length_append] at h2
        rw [if_pos hc] at h
        simp at h2
        omega
      · rename_i hc
        exact ⟨rfl, fun a => Classical.byContradiction fun b => hc ⟨a, b⟩⟩
    rw [e.1] at h
    obtain ⟨i1, i2⟩ := gPass_same h
    refine ⟨?_, fun p hp => ?_⟩
    · show gPass T (gStep G q) = G
      rw [e.1]
      exact i1
    · rcases List.mem_cons.mp hp with rfl | hp
      · exact e.2
      · exact i2 p hp
structure GInv (F : Sea) (f : Mk) (r : Nat) (G : List Int) : Prop where
  nd : G.Nodup
  inn : ∀ x ∈ G, ∃ j, x = ((j : Nat) : Int) ∧ j ∈ tows F f r
  self : (r : Int) ∈ G
abbrev tautL (F : Sea) (f : Mk) : List Rope := F.ropes.filter (taut f)
theorem GInv.step {F : Sea} {f : Mk} {r : Nat} (ok : F.Ok) (st : Stand F f) (hr : r < F.n) {G : List Int} (h : GInv F f r G) {q : Rope} (hq : q ∈ tautL F f) : GInv F f r (gStep G q) := by
  obtain ⟨q1, q2⟩ := List.mem_filter.mp hq
  have q2 : f q.2.1 = f q.1 - q.2.2 := of_decide_eq_true q2
  unfold gStep
  split
  · rename_i hc
    refine ⟨?_, fun x hx => ?_, List.mem_append_left _ h.self⟩
    · rw [List.nodup_append]
      refine ⟨h.nd, by simp, fun a ha b hb e => ?_⟩
      rw [List.mem_singleton.mp hb] at e
      exact hc.2 (e ▸ ha)
    · rcases List.mem_append.mp hx with hx | hx
      · exact h.inn x hx
      · rw [List.mem_singleton.mp hx]
        obtain ⟨j, hj, hm⟩ := h.inn _ hc.1
        have : q.1 = j := by omega
        subst this
        exact ⟨q.2.1, rfl, tows_step ok st hr q1 hm q2⟩
  · exact h
theorem GInv.pass {F : Sea} {f : Mk} {r : Nat} (ok : F.Ok) (st : Stand F f) (hr : r < F.n) : ∀ {T : List Rope} {G : List Int}, (∀ q ∈ T, q ∈ tautL F f) → GInv F f r G → GInv F f r (gPass T G)
  | [], _, _, h => h
  | q :: T, _, hT, h => GInv.pass ok st hr (T := T) (fun p hp => hT p (List.mem_cons_of_mem _ hp)) (h.step ok st hr (hT q List.mem_cons_self))
theorem GInv.len {F : Sea} {f : Mk} {r : Nat} {G : List Int} (h : GInv F f r G) : G.length ≤ F.n := few_len h.nd fun x hx => by
  obtain ⟨j, rfl, hm⟩ := h.inn x hx
  have := (tows_mem.mp hm).1
  omega
theorem GInv.whole {F : Sea} {f : Mk} {r : Nat} (ok : F.Ok) (st : Stand F f) (hr : r < F.n) {G : List Int} (h : GInv F f r G) (hc : ∀ q ∈ tautL F f, (q.1 : Int) ∈ G → (q.2.1 : Int) ∈ G) : sortI G = (tows F f r).map fun (j : Nat) => (j : Int) := by
  refine Reach.whole ok st hr (found := G) ⟨h.nd, h.inn, h.self, by simp, fun q hq h1 _ h3 => hc q (List.mem_filter.mpr ⟨hq, decide_eq_true h3⟩) h1⟩
def fn__law_going : Fn := ⟨3, 10, [.asg (.var 4) (.comp false (.var 3) (.var 3) (.pl (.idx (.var 0) (.lit (.int 1)))) [(.cmp .eq (.idx (.var 1) (.idx (.var 3) (.lit (.int 1)))) (.bin false .sub (.idx (.var 1) (.idx (.var 3) (.lit (.int 0)))) (.idx (.var 3) (.lit (.int 2)))))] [3]), .asg (.tup [(.var 5), (.var 6)]) (.tup [(.lst true [(.var 2)]), (.lit (.int 0))]), .whl (.cmp .lt (.var 6) (.bi false .len [(.var 5)])) [.asg (.var 6) (.bi false .len [(.var 5)]), .forr (.tup [(.var 7), (.var 8), (.var 9)]) (.pl (.var 4)) [.ife (.conj [(.cmp .isin (.var 7) (.var 5)), (.cmp .notin (.var 8) (.var 5))]) [.expr (.bm .append (.var 5) [(.var 8)])] []]], .ret (.bi false .sorted [(.var 5)])]⟩
def fn__law_stroke : Fn := ⟨3, 6, [.asg (.var 3) (.call false "_law_going" [(.var 0), (.var 1), (.var 2)]), .ret (.bi false .tuple [(.comp false (.bin false .add (.var 5) (.bi false .int [(.cmp .isin (.var 4) (.var 3))])) (.tup [(.var 4), (.var 5)]) (.enum (.var 1)) [] [4, 5])])]⟩
section
variable {P : Pg} {F : Sea} {s : Hs} {b c : Bool} {f : Mk}
def goB : List Stm := [.ife (.conj [(.cmp .isin (.var 7) (.var 5)), (.cmp .notin (.var 8) (.var 5))]) [.expr (.bm .append (.var 5) [(.var 8)])] []]
theorem go_f {cl : Cl} (ok : F.Ok) (st : Stand F f) {r : Nat} (hr : r < F.n) (v1 v2 v4 : VV) (o3 o6 : Option VV) : ∀ (T : List Rope) (G : List Int) (o7 o8 o9 : Option VV), (∀ q ∈ T, q ∈ tautL F f) → GInv F f r G →
    ∃ o7' o8' o9', forL [] (stepF cl (.tup [.var 7, .var 8, .var 9]) goB) (T.map (ropeV b)) [some (seaV b F), some v1, some v2, o3, some v4, some (.ref s.length), o6, o7, o8, o9] (s ++ [.lst (G.map .int)]) =
      .ok (.nx [some (seaV b F), some v1, some v2, o3, some v4, some (.ref s.length), o6, o7', o8', o9']) (s ++ [.lst ((gPass T G).map .int)])
  | [], G, o7, o8, o9, _, _ => ⟨o7, o8, o9, rfl⟩
  | q :: T, G, o7, o8, o9, hT, h => by
    have few := ok.few
    have hl := h.len
    have h2 := h.step ok st hr (hT q List.mem_cons_self)
    obtain ⟨o7', o8', o9', e⟩ := go_f (cl := cl) ok st hr v1 v2 v4 o3 o6 T (gStep G q) (some (.int q.1)) (some (.int q.2.1)) (some (.int q.2.2)) (fun p hp => hT p (List.mem_cons_of_mem _ hp)) h2
    refine ⟨o7', o8', o9', ?_⟩
    have kd : kid (s ++ [Ob.lst (G.map VV.int)]) s.length = some (G.map .int) := kid_of (by rw [List.getElem?_append_right (Nat.le_refl _)]; simp)
    have i1 := in_ints (s := s ++ [Ob.lst (G.map VV.int)]) (v := .ref s.length) (x := (q.1 : Int)) (l := G) kd
    have i2 := notin_ints (s := s ++ [Ob.lst (G.map VV.int)]) (v := .ref s.length) (x := (q.2.1 : Int)) (l := G) kd
    have st1 : stepF cl (.tup [.var 7, .var 8, .var 9]) goB (ropeV b q) [some (seaV b F), some v1, some v2, o3, some v4, some (.ref s.length), o6, o7, o8, o9] (s ++ [.lst (G.map .int)]) =
        .ok (.nx [some (seaV b F), some v1, some v2, o3, some v4, some (.ref s.length), o6, some (.int q.1), some (.int q.2.1), some (.int q.2.2)]) (s ++ [.lst ((gStep G q).map .int)]) := by
      by_cases a1 : (q.1 : Int) ∈ G
      · by_cases a2 : (q.2.1 : Int) ∈ G
        · simp only [a1, decide_true] at i1
          simp only [a2, decide_true, Bool.not_true] at i2
          have eg : gStep G q = G := by unfold gStep; rw [if_neg (fun z => z.2 a2)]
          rw [eg]
          simp only [goB, stepF, ropeV, r_bind, r_assoc, r_lift, r_noX, r_var, r_lit, r_vvn, r_vvb, r_vvi, r_vvs, r_bin, r_neg, r_no, r_conj, r_disj, r_cmp, r_chain, r_ite, r_tup, r_lst, r_idx, r_sl, r_call, r_callk, r_bi, r_bm, r_comp, r_nil, r_cons, r_and1, r_and, r_or1, r_or, r_c0, r_c1, r_range, r_zip, r_enum, r_pl, r_s0, r_s, r_tnx, r_trt, r_tbk, r_tct, r_txc, r_cat, r_asg, r_sub, r_aug, r_expr, r_ret, r_ife, r_for, r_asgv, r_asgt, r_asgl, r_asg0, r_asgc, r_mapS, r_get0, r_gets, r_set0, r_sets, r_wip0, r_wip, r_trb, r_tri, r_ii, r_add, r_subi, r_gIdx, r_dcomp, r_scomp, r_sqt, r_sql, r_sqr, r_gCmp, r_lt, r_gt, r_le, r_ge, r_eqi, r_nei, r_isN, r_isI, r_inN, r_inI, r_neg', r_at0, r_at1, r_at2, r_ort, r_onx, r_lenl, r_lent, r_lenr, r_abs, r_intb, r_inti, r_max2, r_min2, r_tupt, r_tupl, r_tupr, r_listt, r_listl, r_listr, r_p6, r_p9, r_p11, r_p18, r_mkT0, r_mkF0, r_mkM0, r_mkT1, r_mkF1, r_mkM1, r_mkT2, r_mkF2, r_mkM2, r_mkT3, r_mkF3, r_mkM3, r_mkT4, r_mkF4, r_mkM4, r_mkT5, r_mkF5, r_mkM5, r_fld, r_gfld, r_isx, r_isxE, r_isxN, r_bcnt, r_catX, r_rai, r_tryk, r_tryN, r_tryR, r_tryX, r_oxc, r_bindX, sq_t, sq_f, q_seq, q_src, q_len, q_tup, q_list, q_asg, q_pur, q_srt, q_srl, optV_n, optV_s, r_isiI, r_isiT, r_isiL, isTy_ii, isTy_ib, isTy_il, isTy_it, isTy_tt, isTy_tl, isTy_ll, any_n, any_c, r_eqs, r_nes, r_repr, r_addT, i1, i2, if_true, if_false, Bool.false_eq_true]
        · simp only [a1, decide_true] at i1
          simp only [a2, decide_false, Bool.not_false] at i2
          have eg : gStep G q = G ++ [(q.2.1 : Int)] := by unfold gStep; rw [if_pos ⟨a1, a2⟩]
          rw [eg]
          have ap : bmV .append (.ref s.length) [.int q.2.1] (s ++ [Ob.lst (G.map VV.int)]) = .ok .non (s ++ [Ob.lst ((G ++ [(q.2.1 : Int)]).map .int)]) := by
            show (match kid (s ++ [Ob.lst (G.map VV.int)]) s.length with
              | some xs => if xs.length < szL then Out.ok VV.non ((s ++ [Ob.lst (G.map VV.int)]).set s.length (.lst (xs ++ [VV.int q.2.1]))) else .bad
              | none => .bad) = _
            rw [kd]
            dsimp only
            rw [if_pos (by rw [List.length_map]; unfold szL; omega), List.set_append_right _ _ (Nat.le_refl _)]
            simp
          have ty : bmTy .append (.ref s.length) (s ++ [Ob.lst (G.map VV.int)]) = some () := by
            show (kid (s ++ [Ob.lst (G.map VV.int)]) s.length).map _ = _
            rw [kd]
            rfl
          simp only [goB, stepF, ropeV, r_bind, r_assoc, r_lift, r_noX, r_var, r_lit, r_vvn, r_vvb, r_vvi, r_vvs, r_bin, r_neg, r_no, r_conj, r_disj, r_cmp, r_chain, r_ite, r_tup, r_lst, r_idx, r_sl, r_call, r_callk, r_bi, r_bm, r_comp, r_nil, r_cons, r_and1, r_and, r_or1, r_or, r_c0, r_c1, r_range, r_zip, r_enum, r_pl, r_s0, r_s, r_tnx, r_trt, r_tbk, r_tct, r_txc, r_cat, r_asg, r_sub, r_aug, r_expr, r_ret, r_ife, r_for, r_asgv, r_asgt, r_asgl, r_asg0, r_asgc, r_mapS, r_get0, r_gets, r_set0, r_sets, r_wip0, r_wip, r_trb, r_tri, r_ii, r_add, r_subi, r_gIdx, r_dcomp, r_scomp, r_sqt, r_sql, r_sqr, r_gCmp, r_lt, r_gt, r_le, r_ge, r_eqi, r_nei, r_isN, r_isI, r_inN, r_inI, r_neg', r_at0, r_at1, r_at2, r_ort, r_onx, r_lenl, r_lent, r_lenr, r_abs, r_intb, r_inti, r_max2, r_min2, r_tupt, r_tupl, r_tupr, r_listt, r_listl, r_listr, r_p6, r_p9, r_p11, r_p18, r_mkT0, r_mkF0, r_mkM0, r_mkT1, r_mkF1, r_mkM1, r_mkT2, r_mkF2, r_mkM2, r_mkT3, r_mkF3, r_mkM3, r_mkT4, r_mkF4, r_mkM4, r_mkT5, r_mkF5, r_mkM5, r_fld, r_gfld, r_isx, r_isxE, r_isxN, r_bcnt, r_catX, r_rai, r_tryk, r_tryN, r_tryR, r_tryX, r_oxc, r_bindX, sq_t, sq_f, q_seq, q_src, q_len, q_tup, q_list, q_asg, q_pur, q_srt, q_srl, optV_n, optV_s, r_isiI, r_isiT, r_isiL, isTy_ii, isTy_ib, isTy_il, isTy_it, isTy_tt, isTy_tl, isTy_ll, any_n, any_c, r_eqs, r_nes, r_repr, r_addT, i1, i2, if_true, if_false, Bool.false_eq_true, ty, ap]
      · simp only [a1, decide_false] at i1
        have eg : gStep G q = G := by unfold gStep; rw [if_neg (fun z => a1 z.1)]
        rw [eg]
        simp only [goB, stepF, ropeV, r_bind, r_assoc, r_lift, r_noX, r_var, r_lit, r_vvn, r_vvb, r_vvi, r_vvs, r_bin, r_neg, r_no, r_conj, r_disj, r_cmp, r_chain, r_ite, r_tup, r_lst, r_idx, r_sl, r_call, r_callk, r_bi, r_bm, r_comp, r_nil, r_cons, r_and1, r_and, r_or1, r_or, r_c0, r_c1, r_range, r_zip, r_enum, r_pl, r_s0, r_s, r_tnx, r_trt, r_tbk, r_tct, r_txc, r_cat, r_asg, r_sub, r_aug, r_expr, r_ret, r_ife, r_for, r_asgv, r_asgt, r_asgl, r_asg0, r_asgc, r_mapS, r_get0, r_gets, r_set0, r_sets, r_wip0, r_wip, r_trb, r_tri, r_ii, r_add, r_subi, r_gIdx, r_dcomp, r_scomp, r_sqt, r_sql, r_sqr, r_gCmp, r_lt, r_gt, r_le, r_ge, r_eqi, r_nei, r_isN, r_isI, r_inN, r_inI, r_neg', r_at0, r_at1, r_at2, r_ort, r_onx, r_lenl, r_lent, r_lenr, r_abs, r_intb, r_inti, r_max2, r_min2, r_tupt, r_tupl, r_tupr, r_listt, r_listl, r_listr, r_p6, r_p9, r_p11, r_p18, r_mkT0, r_mkF0, r_mkM0, r_mkT1, r_mkF1, r_mkM1, r_mkT2, r_mkF2, r_mkM2, r_mkT3, r_mkF3, r_mkM3, r_mkT4, r_mkF4, r_mkM4, r_mkT5, r_mkF5, r_mkM5, r_fld, r_gfld, r_isx, r_isxE, r_isxN, r_bcnt, r_catX, r_rai, r_tryk, r_tryN, r_tryR, r_tryX, r_oxc, r_bindX, sq_t, sq_f, q_seq, q_src, q_len, q_tup, q_list, q_asg, q_pur, q_srt, q_srl, optV_n, optV_s, r_isiI, r_isiT, r_isiL, isTy_ii, isTy_ib, isTy_il, isTy_it, isTy_tt, isTy_tl, isTy_ll, any_n, any_c, r_eqs, r_nes, r_repr, r_addT, i1, if_false, Bool.false_eq_true]
    show (if gokB _ [] then (stepF _ _ _ (ropeV b q) _ _).bind _ else _) = _
    rw [gokB_nil, if_pos rfl, st1]
    exact e
def goC : Ex := (.cmp .lt (.var 6) (.bi false .len [(.var 5)]))
def goS : List Stm := [.asg (.var 6) (.bi false .len [(.var 5)]), .forr (.tup [(.var 7), (.var 8), (.var 9)]) (.pl (.var 4)) goB]
theorem go_w {cl : Cl} (ok : F.Ok) (st : Stand F f) {r : Nat} (hr : r < F.n) (v1 v2 : VV) (o3 : Option VV) : ∀ (fuel : Nat) (G : List Int) (z : Nat) (o7 o8 o9 : Option VV), GInv F f r G → 0 < fuel → (z < G.length → F.n - G.length + 1 < fuel) → (¬ z < G.length → ∀ q ∈ tautL F f, (q.1 : Int) ∈ G → (q.2.1 : Int) ∈ G) →
    ∃ G' p6 p7 p8 p9, whileL (whT cl goC) (whB cl goS) fuel [some (seaV b F), some v1, some v2, o3, some (.lst ((tautL F f).map (ropeV b))), some (.ref s.length), some (.int z), o7, o8, o9] (s ++ [.lst (G.map .int)]) =
      .ok (.nx [some (seaV b F), some v1, some v2, o3, some (.lst ((tautL F f).map (ropeV b))), some (.ref s.length), p6, p7, p8, p9]) (s ++ [.lst (G'.map .int)]) ∧ GInv F f r G' ∧ ∀ q ∈ tautL F f, (q.1 : Int) ∈ G' → (q.2.1 : Int) ∈ G'
  | 0, _, _, _, _, _, _, h, _, _ => by omega
  | fuel + 1, G, z, o7, o8, o9, hG, _, hm, hc => by
    rw [whl_red]
    have kd : kid (s ++ [Ob.lst (G.map VV.int)]) s.length = some (G.map .int) := kid_of (by rw [List.getElem?_append_right (Nat.le_refl _)]; simp)
    have ln := len_v (S := s ++ [Ob.lst (G.map VV.int)]) (v := .ref s.length) kd (by intro z h; cases h)
    rw [List.length_map] at ln
    by_cases hz : z < G.length
    · have lz : (z : Int) < (G.length : Int) := by omega
      obtain ⟨o7', o8', o9', e1⟩ := go_f (s := s) (b := b) (cl := cl) ok st hr v1 v2 (.lst ((tautL F f).map (ropeV b))) o3 (some (.int G.length)) (tautL F f) G o7 o8 o9 (fun q h => h) hG
      have hG' := hG.pass ok st hr (T := tautL F f) fun q h => h
      have l1 := gPass_len (tautL F f) G
      have l2 := hG'.len
      have hm := hm hz
      obtain ⟨G', p6, p7, p8, p9, e2, i1, i2⟩ := go_w (cl := cl) ok st hr v1 v2 o3 fuel (gPass (tautL F f) G) G.length o7' o8' o9' hG' (by omega) (fun h => by omega) (fun h => by
        have hs : (gPass (tautL F f) G).length = G.length := by omega
        obtain ⟨j1, j2⟩ := gPass_same hs
        rw [j1]
        exact j2)
      refine ⟨G', p6, p7, p8, p9, ?_, i1, i2⟩
      have sr : srcOf (s ++ [Ob.lst (G.map VV.int)]) (.lst ((tautL F f).map (ropeV b))) = some ((tautL F f).map (ropeV b), []) := rfl
      simp only [whT_ap, goC, r_bind, r_assoc, r_lift, r_noX, r_var, r_lit, r_vvn, r_vvb, r_vvi, r_vvs, r_bin, r_neg, r_no, r_conj, r_disj, r_cmp, r_chain, r_ite, r_tup, r_lst, r_idx, r_sl, r_call, r_callk, r_bi, r_bm, r_comp, r_nil, r_cons, r_and1, r_and, r_or1, r_or, r_c0, r_c1, r_range, r_zip, r_enum, r_pl, r_s0, r_s, r_tnx, r_trt, r_tbk, r_tct, r_txc, r_cat, r_asg, r_sub, r_aug, r_expr, r_ret, r_ife, r_for, r_asgv, r_asgt, r_asgl, r_asg0, r_asgc, r_mapS, r_get0, r_gets, r_set0, r_sets, r_wip0, r_wip, r_trb, r_tri, r_ii, r_add, r_subi, r_gIdx, r_dcomp, r_scomp, r_sqt, r_sql, r_sqr, r_gCmp, r_lt, r_gt, r_le, r_ge, r_eqi, r_nei, r_isN, r_isI, r_inN, r_inI, r_neg', r_at0, r_at1, r_at2, r_ort, r_onx, r_lenl, r_lent, r_lenr, r_abs, r_intb, r_inti, r_max2, r_min2, r_tupt, r_tupl, r_tupr, r_listt, r_listl, r_listr, r_p6, r_p9, r_p11, r_p18, r_mkT0, r_mkF0, r_mkM0, r_mkT1, r_mkF1, r_mkM1, r_mkT2, r_mkF2, r_mkM2, r_mkT3, r_mkF3, r_mkM3, r_mkT4, r_mkF4, r_mkM4, r_mkT5, r_mkF5, r_mkM5, r_fld, r_gfld, r_isx, r_isxE, r_isxN, r_bcnt, r_catX, r_rai, r_tryk, r_tryN, r_tryR, r_tryX, r_oxc, r_bindX, sq_t, sq_f, q_seq, q_src, q_len, q_tup, q_list, q_asg, q_pur, q_srt, q_srl, optV_n, optV_s, r_isiI, r_isiT, r_isiL, isTy_ii, isTy_ib, isTy_il, isTy_it, isTy_tt, isTy_tl, isTy_ll, any_n, any_c, r_eqs, r_nes, r_repr, r_addT, kd, List.length_map, lz, decide_true, if_true]
      simp only [whB_ap, goS, r_bind, r_assoc, r_lift, r_noX, r_var, r_lit, r_vvn, r_vvb, r_vvi, r_vvs, r_bin, r_neg, r_no, r_conj, r_disj, r_cmp, r_chain, r_ite, r_tup, r_lst, r_idx, r_sl, r_call, r_callk, r_bi, r_bm, r_comp, r_nil, r_cons, r_and1, r_and, r_or1, r_or, r_c0, r_c1, r_range, r_zip, r_enum, r_pl, r_s0, r_s, r_tnx, r_trt, r_tbk, r_tct, r_txc, r_cat, r_asg, r_sub, r_aug, r_expr, r_ret, r_ife, r_for, r_asgv, r_asgt, r_asgl, r_asg0, r_asgc, r_mapS, r_get0, r_gets, r_set0, r_sets, r_wip0, r_wip, r_trb, r_tri, r_ii, r_add, r_subi, r_gIdx, r_dcomp, r_scomp, r_sqt, r_sql, r_sqr, r_gCmp, r_lt, r_gt, r_le, r_ge, r_eqi, r_nei, r_isN, r_isI, r_inN, r_inI, r_neg', r_at0, r_at1, r_at2, r_ort, r_onx, r_lenl, r_lent, r_lenr, r_abs, r_intb, r_inti, r_max2, r_min2, r_tupt, r_tupl, r_tupr, r_listt, r_listl, r_listr, r_p6, r_p9, r_p11, r_p18, r_mkT0, r_mkF0, r_mkM0, r_mkT1, r_mkF1, r_mkM1, r_mkT2, r_mkF2, r_mkM2, r_mkT3, r_mkF3, r_mkM3, r_mkT4, r_mkF4, r_mkM4, r_mkT5, r_mkF5, r_mkM5, r_fld, r_gfld, r_isx, r_isxE, r_isxN, r_bcnt, r_catX, r_rai, r_tryk, r_tryN, r_tryR, r_tryX, r_oxc, r_bindX, sq_t, sq_f, q_seq, q_src, q_len, q_tup, q_list, q_asg, q_pur, q_srt, q_srl, optV_n, optV_s, r_isiI, r_isiT, r_isiL, isTy_ii, isTy_ib, isTy_il, isTy_it, isTy_tt, isTy_tl, isTy_ll, any_n, any_c, r_eqs, r_nes, r_repr, r_addT, kd, List.length_map, sr, e1, whK_nx]
      unfold goS goC at e2
      rw [e2]
      rfl
    · have lz : ¬ (z : Int) < (G.length : Int) := by omega
      refine ⟨G, some (.int z), o7, o8, o9, ?_, hG, hc hz⟩
      simp only [whT_ap, goC, r_bind, r_assoc, r_lift, r_noX, r_var, r_lit, r_vvn, r_vvb, r_vvi, r_vvs, r_bin, r_neg, r_no, r_conj, r_disj, r_cmp, r_chain, r_ite, r_tup, r_lst, r_idx, r_sl, r_call, r_callk, r_bi, r_bm, r_comp, r_nil, r_cons, r_and1, r_and, r_or1, r_or, r_c0, r_c1, r_range, r_zip, r_enum, r_pl, r_s0, r_s, r_tnx, r_trt, r_tbk, r_tct, r_txc, r_cat, r_asg, r_sub, r_aug, r_expr, r_ret, r_ife, r_for, r_asgv, r_asgt, r_asgl, r_asg0, r_asgc, r_mapS, r_get0, r_gets, r_set0, r_sets, r_wip0, r_wip, r_trb, r_tri, r_ii, r_add, r_subi, r_gIdx, r_dcomp, r_scomp, r_sqt, r_sql, r_sqr, r_gCmp, r_lt, r_gt, r_le, r_ge, r_eqi, r_nei, r_isN, r_isI, r_inN, r_inI, r_neg', r_at0, r_at1, r_at2, r_ort, r_onx, r_lenl, r_lent, r_lenr, r_abs, r_intb, r_inti, r_max2, r_min2, r_tupt, r_tupl, r_tupr, r_listt, r_listl, r_listr, r_p6, r_p9, r_p11, r_p18, r_mkT0, r_mkF0, r_mkM0, r_mkT1, r_mkF1, r_mkM1, r_mkT2, r_mkF2, r_mkM2, r_mkT3, r_mkF3, r_mkM3, r_mkT4, r_mkF4, r_mkM4, r_mkT5, r_mkF5, r_mkM5, r_fld, r_gfld, r_isx, r_isxE, r_isxN, r_bcnt, r_catX, r_rai, r_tryk, r_tryN, r_tryR, r_tryX, r_oxc, r_bindX, sq_t, sq_f, q_seq, q_src, q_len, q_tup, q_list, q_asg, q_pur, q_srt, q_srl, optV_n, optV_s, r_isiI, r_isiT, r_isiL, isTy_ii, isTy_ib, isTy_il, isTy_it, isTy_tt, isTy_tl, isTy_ll, any_n, any_c, r_eqs, r_nes, r_repr, r_addT, kd, List.length_map, lz, decide_false, if_false, Bool.false_eq_true]
/-- the law's own going on is whom the stroke tows -/
theorem going_ok (hP : P "_law_going" = some fn__law_going) (ok : F.Ok) (st : Stand F f) {r : Nat} (hr : r < F.n) (n : Nat) : callF P (n + 1) false "_law_going" [seaV b F, mkV c F.n f, .int r] s = .ok (towsV F f r) s := by
  rw [callF_run hP rfl]
  have few := ok.few
  have sv : ∀ S, seqOf S (seaV b F) = some [.int F.n, sq b (F.ropes.map (ropeV b))] := fun S => q_seq
  have hsv : ∀ S, seqOf S (mkV c F.n f) = some (mks F.n f) := fun S => q_seq
  have c1 : compL [] (stepC (callF P n) (.var 3) (.var 3) [(.cmp .eq (.idx (.var 1) (.idx (.var 3) (.lit (.int 1)))) (.bin false .sub (.idx (.var 1) (.idx (.var 3) (.lit (.int 0)))) (.idx (.var 3) (.lit (.int 2)))))] [3] [some (seaV b F), some (mkV c F.n f), some (.int r), none, none, none, none, none, none, none])
      (F.ropes.map (ropeV b)) s = .ok ((tautL F f).map (ropeV b)) s := compL_fm rfl fun q hq => by
    have a1 : atV (mks F.n f) (q.1 : Int) = some (.int (f q.1)) := at_rng (ok.lt1 q hq) _
    have a2 : atV (mks F.n f) (q.2.1 : Int) = some (.int (f q.2.1)) := at_rng (ok.lt2 q hq) _
    by_cases h : f q.2.1 = f q.1 - q.2.2
    · simp only [stepC, ropeV, r_bind, r_assoc, r_lift, r_noX, r_var, r_lit, r_vvn, r_vvb, r_vvi, r_vvs, r_bin, r_neg, r_no, r_conj, r_disj, r_cmp, r_chain, r_ite, r_tup, r_lst, r_idx, r_sl, r_call, r_callk, r_bi, r_bm, r_comp, r_nil, r_cons, r_and1, r_and, r_or1, r_or, r_c0, r_c1, r_range, r_zip, r_enum, r_pl, r_s0, r_s, r_tnx, r_trt, r_tbk, r_tct, r_txc, r_cat, r_asg, r_sub, r_aug, r_expr, r_ret, r_ife, r_for, r_asgv, r_asgt, r_asgl, r_asg0, r_asgc, r_mapS, r_get0, r_gets, r_set0, r_sets, r_wip0, r_wip, r_trb, r_tri, r_ii, r_add, r_subi, r_gIdx, r_dcomp, r_scomp, r_sqt, r_sql, r_sqr, r_gCmp, r_lt, r_gt, r_le, r_ge, r_eqi, r_nei, r_isN, r_isI, r_inN, r_inI, r_neg', r_at0, r_at1, r_at2, r_ort, r_onx, r_lenl, r_lent, r_lenr, r_abs, r_intb, r_inti, r_max2, r_min2, r_tupt, r_tupl, r_tupr, r_listt, r_listl, r_listr, r_p6, r_p9, r_p11, r_p18, r_mkT0, r_mkF0, r_mkM0, r_mkT1, r_mkF1, r_mkM1, r_mkT2, r_mkF2, r_mkM2, r_mkT3, r_mkF3, r_mkM3, r_mkT4, r_mkF4, r_mkM4, r_mkT5, r_mkF5, r_mkM5, r_fld, r_gfld, r_isx, r_isxE, r_isxN, r_bcnt, r_catX, r_rai, r_tryk, r_tryN, r_tryR, r_tryX, r_oxc, r_bindX, sq_t, sq_f, q_seq, q_src, q_len, q_tup, q_list, q_asg, q_pur, q_srt, q_srl, optV_n, optV_s, r_isiI, r_isiT, r_isiL, isTy_ii, isTy_ib, isTy_il, isTy_it, isTy_tt, isTy_tl, isTy_ll, any_n, any_c, r_eqs, r_nes, r_repr, r_addT, hsv, a1, a2, taut, h, decide_true, if_true]
    · simp only [stepC, ropeV, r_bind, r_assoc, r_lift, r_noX, r_var, r_lit, r_vvn, r_vvb, r_vvi, r_vvs, r_bin, r_neg, r_no, r_conj, r_disj, r_cmp, r_chain, r_ite, r_tup, r_lst, r_idx, r_sl, r_call, r_callk, r_bi, r_bm, r_comp, r_nil, r_cons, r_and1, r_and, r_or1, r_or, r_c0, r_c1, r_range, r_zip, r_enum, r_pl, r_s0, r_s, r_tnx, r_trt, r_tbk, r_tct, r_txc, r_cat, r_asg, r_sub, r_aug, r_expr, r_ret, r_ife, r_for, r_asgv, r_asgt, r_asgl, r_asg0, r_asgc, r_mapS, r_get0, r_gets, r_set0, r_sets, r_wip0, r_wip, r_trb, r_tri, r_ii, r_add, r_subi, r_gIdx, r_dcomp, r_scomp, r_sqt, r_sql, r_sqr, r_gCmp, r_lt, r_gt, r_le, r_ge, r_eqi, r_nei, r_isN, r_isI, r_inN, r_inI, r_neg', r_at0, r_at1, r_at2, r_ort, r_onx, r_lenl, r_lent, r_lenr, r_abs, r_intb, r_inti, r_max2, r_min2, r_tupt, r_tupl, r_tupr, r_listt, r_listl, r_listr, r_p6, r_p9, r_p11, r_p18, r_mkT0, r_mkF0, r_mkM0, r_mkT1, r_mkF1, r_mkM1, r_mkT2, r_mkF2, r_mkM2, r_mkT3, r_mkF3, r_mkM3, r_mkT4, r_mkF4, r_mkM4, r_mkT5, r_mkF5, r_mkM5, r_fld, r_gfld, r_isx, r_isxE, r_isxN, r_bcnt, r_catX, r_rai, r_tryk, r_tryN, r_tryR, r_tryX, r_oxc, r_bindX, sq_t, sq_f, q_seq, q_src, q_len, q_tup, q_list, q_asg, q_pur, q_srt, q_srl, optV_n, optV_s, r_isiI, r_isiT, r_isiL, isTy_ii, isTy_ib, isTy_il, isTy_it, isTy_tt, isTy_tl, isTy_ll, any_n, any_c, r_eqs, r_nes, r_repr, r_addT, hsv, a1, a2, taut, h, decide_false, if_false, Bool.false_eq_true]
  have k1 : mkL false ((tautL F f).map (ropeV b)) s = .ok (.lst ((tautL F f).map (ropeV b))) s := mkL_f (by
    rw [List.length_map]
    have h1 : (tautL F f).length ≤ F.ropes.length := List.length_filter_le _ _
    have h2 := ok.len
    exact sz_of (by omega))
  have hG : GInv F f r [(r : Int)] := ⟨by simp, fun x hx => ⟨r, List.mem_singleton.mp hx, tows_self ok hr⟩, by simp⟩
  obtain ⟨G', p6, p7, p8, p9, e, i1, i2⟩ := go_w (s := s) (b := b) (cl := callF P n) ok st hr (mkV c F.n f) (.int r) none wfuel [(r : Int)] 0 none none none hG (by unfold wfuel; omega) (fun _ => by
    have : F.n - 1 + 1 < 1000000 := by omega
    unfold wfuel
    simpa using this) (fun h => absurd (by simp) h)
  have kd : kid (s ++ [Ob.lst (G'.map VV.int)]) s.length = some (G'.map .int) := kid_of (by rw [List.getElem?_append_right (Nat.le_refl _)]; simp)
  have so : biV false .sorted [.ref s.length] (s ++ [Ob.lst (G'.map VV.int)]) = .ok (towsV F f r) (s ++ [Ob.lst (G'.map VV.int)]) := by
    have e1 : seqInts (s ++ [Ob.lst (G'.map VV.int)]) (.ref s.length) = some G' := by
      show (kid (s ++ [Ob.lst (G'.map VV.int)]) s.length).bind intsOf = _
      rw [kd]
      show mapO intOf (G'.map VV.int) = _
      have := ints_map (f := fun (x : Int) => x) (l := G')
      rw [List.map_id'] at this
      exact this
    show (match seqInts (s ++ [Ob.lst (G'.map VV.int)]) (.ref s.length) with
      | some ns => mkL false ((sortI ns).map .int) (s ++ [Ob.lst (G'.map VV.int)])
      | none => .bad) = _
    rw [e1]
    dsimp only
    rw [i1.whole ok st hr i2]
    have e2 : ((tows F f r).map fun (j : Nat) => (j : Int)).map VV.int = (tows F f r).map fun (j : Nat) => VV.int j := by rw [List.map_map]; rfl
    rw [e2]
    refine mkL_f ?_
    rw [List.length_map]
    unfold tows
    have := List.length_filter_le (towB F f r) (List.range F.n)
    rw [List.length_range] at this
    exact sz_of (by omega)
  show (exs (callF P n) fn__law_going.body [some (seaV b F), some (mkV c F.n f), some (.int r), none, none, none, none, none, none, none] s).bind _ = _
  simp only [fn__law_going, r_s, r_asg, r_comp, r_pl, r_idx, r_lit, r_var, r_get0, r_gets, r_bind, r_assoc, r_lift, r_bind, r_assoc, r_lift, r_noX, r_var, r_lit, r_vvn, r_vvb, r_vvi, r_vvs, r_bin, r_neg, r_no, r_conj, r_disj, r_cmp, r_chain, r_ite, r_tup, r_lst, r_idx, r_sl, r_call, r_callk, r_bi, r_bm, r_comp, r_nil, r_cons, r_and1, r_and, r_or1, r_or, r_c0, r_c1, r_range, r_zip, r_enum, r_pl, r_s0, r_s, r_tnx, r_trt, r_tbk, r_tct, r_txc, r_cat, r_asg, r_sub, r_aug, r_expr, r_ret, r_ife, r_for, r_asgv, r_asgt, r_asgl, r_asg0, r_asgc, r_mapS, r_get0, r_gets, r_set0, r_sets, r_wip0, r_wip, r_trb, r_tri, r_ii, r_add, r_subi, r_gIdx, r_dcomp, r_scomp, r_sqt, r_sql, r_sqr, r_gCmp, r_lt, r_gt, r_le, r_ge, r_eqi, r_nei, r_isN, r_isI, r_inN, r_inI, r_neg', r_at0, r_at1, r_at2, r_ort, r_onx, r_lenl, r_lent, r_lenr, r_abs, r_intb, r_inti, r_max2, r_min2, r_tupt, r_tupl, r_tupr, r_listt, r_listl, r_listr, r_p6, r_p9, r_p11, r_p18, r_mkT0, r_mkF0, r_mkM0, r_mkT1, r_mkF1, r_mkM1, r_mkT2, r_mkF2, r_mkM2, r_mkT3, r_mkF3, r_mkM3, r_mkT4, r_mkF4, r_mkM4, r_mkT5, r_mkF5, r_mkM5, r_fld, r_gfld, r_isx, r_isxE, r_isxN, r_bcnt, r_catX, r_rai, r_tryk, r_tryN, r_tryR, r_tryX, r_oxc, r_bindX, sq_t, sq_f, q_seq, q_src, q_len, q_tup, q_list, q_asg, q_pur, q_srt, q_srl, optV_n, optV_s, r_isiI, r_isiT, r_isiL, isTy_ii, isTy_ib, isTy_il, isTy_it, isTy_tt, isTy_tl, isTy_ll, any_n, any_c, r_eqs, r_nes, r_repr, r_addT, sv, c1, k1]
  unfold goC goS goB at e
  rw [show [(r : Int)].map VV.int = [VV.int (r : Int)] from rfl] at e
  rw [show ((0 : Nat) : Int) = 0 from rfl] at e
  rw [r_whl, e]
  simp only [r_bind, r_tnx, r_s, r_ret, r_bi, r_cons, r_nil, r_var, r_get0, r_gets, r_assoc, so, r_cat, r_trt]
  exact fin_drop towsV_pur
/-- the law's own stroke -/
theorem lstroke_ok (hG : P "_law_going" = some fn__law_going) (hP : P "_law_stroke" = some fn__law_stroke) (ok : F.Ok) (st : Stand F f) {r : Nat} (hr : r < F.n) (n : Nat) : callF P (n + 2) false "_law_stroke" [seaV b F, mkV c F.n f, .int r] s = .ok (mkV true F.n (stroke F f r)) s := by
  rw [callF_run hP rfl]
  have e1 := going_ok (s := s) (b := b) (c := c) hG ok st hr n
  have c1 : compL [] (stepC (callF P (n + 1)) (.bin false .add (.var 5) (.bi false .int [(.cmp .isin (.var 4) (.var 3))])) (.tup [(.var 4), (.var 5)]) [] [4, 5] [some (seaV b F), some (mkV c F.n f), some (.int r), some (towsV F f r), none, none])
      ((List.range F.n).map fun (j : Nat) => VV.tup [.int j, .int (f j)]) s = .ok (mks F.n (stroke F f r)) s := compL_map rfl fun j hj => by
    have hj := List.mem_range.mp hj
    have i1 := in_tows (F := F) (f := f) (r := r) hj s
    simp only [stepC, r_bind, r_assoc, r_lift, r_noX, r_var, r_lit, r_vvn, r_vvb, r_vvi, r_vvs, r_bin, r_neg, r_no, r_conj, r_disj, r_cmp, r_chain, r_ite, r_tup, r_lst, r_idx, r_sl, r_call, r_callk, r_bi, r_bm, r_comp, r_nil, r_cons, r_and1, r_and, r_or1, r_or, r_c0, r_c1, r_range, r_zip, r_enum, r_pl, r_s0, r_s, r_tnx, r_trt, r_tbk, r_tct, r_txc, r_cat, r_asg, r_sub, r_aug, r_expr, r_ret, r_ife, r_for, r_asgv, r_asgt, r_asgl, r_asg0, r_asgc, r_mapS, r_get0, r_gets, r_set0, r_sets, r_wip0, r_wip, r_trb, r_tri, r_ii, r_add, r_subi, r_gIdx, r_dcomp, r_scomp, r_sqt, r_sql, r_sqr, r_gCmp, r_lt, r_gt, r_le, r_ge, r_eqi, r_nei, r_isN, r_isI, r_inN, r_inI, r_neg', r_at0, r_at1, r_at2, r_ort, r_onx, r_lenl, r_lent, r_lenr, r_abs, r_intb, r_inti, r_max2, r_min2, r_tupt, r_tupl, r_tupr, r_listt, r_listl, r_listr, r_p6, r_p9, r_p11, r_p18, r_mkT0, r_mkF0, r_mkM0, r_mkT1, r_mkF1, r_mkM1, r_mkT2, r_mkF2, r_mkM2, r_mkT3, r_mkF3, r_mkM3, r_mkT4, r_mkF4, r_mkM4, r_mkT5, r_mkF5, r_mkM5, r_fld, r_gfld, r_isx, r_isxE, r_isxN, r_bcnt, r_catX, r_rai, r_tryk, r_tryN, r_tryR, r_tryX, r_oxc, r_bindX, sq_t, sq_f, q_seq, q_src, q_len, q_tup, q_list, q_asg, q_pur, q_srt, q_srl, optV_n, optV_s, r_isiI, r_isiT, r_isiL, isTy_ii, isTy_ib, isTy_il, isTy_it, isTy_tt, isTy_tl, isTy_ll, any_n, any_c, r_eqs, r_nes, r_repr, r_addT, i1, if_true, stroke]
    cases towB F f r j <;> simp [r_bind, r_assoc, r_lift, r_noX, r_var, r_lit, r_vvn, r_vvb, r_vvi, r_vvs, r_bin, r_neg, r_no, r_conj, r_disj, r_cmp, r_chain, r_ite, r_tup, r_lst, r_idx, r_sl, r_call, r_callk, r_bi, r_bm, r_comp, r_nil, r_cons, r_and1, r_and, r_or1, r_or, r_c0, r_c1, r_range, r_zip, r_enum, r_pl, r_s0, r_s, r_tnx, r_trt, r_tbk, r_tct, r_txc, r_cat, r_asg, r_sub, r_aug, r_expr, r_ret, r_ife, r_for, r_asgv, r_asgt, r_asgl, r_asg0, r_asgc, r_mapS, r_get0, r_gets, r_set0, r_sets, r_wip0, r_wip, r_trb, r_tri, r_ii, r_add, r_subi, r_gIdx, r_dcomp, r_scomp, r_sqt, r_sql, r_sqr, r_gCmp, r_lt, r_gt, r_le, r_ge, r_eqi, r_nei, r_isN, r_isI, r_inN, r_inI, r_neg', r_at0, r_at1, r_at2, r_ort, r_onx, r_lenl, r_lent, r_lenr, r_abs, r_intb, r_inti, r_max2, r_min2, r_tupt, r_tupl, r_tupr, r_listt, r_listl, r_listr, r_p6, r_p9, r_p11, r_p18, r_mkT0, r_mkF0, r_mkM0, r_mkT1, r_mkF1, r_mkM1, r_mkT2, r_mkF2, r_mkM2, r_mkT3, r_mkF3, r_mkM3, r_mkT4, r_mkF4, r_mkM4, r_mkT5, r_mkF5, r_mkM5, r_fld, r_gfld, r_isx, r_isxE, r_isxN, r_bcnt, r_catX, r_rai, r_tryk, r_tryN, r_tryR, r_tryX, r_oxc, r_bindX, sq_t, sq_f, q_seq, q_src, q_len, q_tup, q_list, q_asg, q_pur, q_srt, q_srl, optV_n, optV_s, r_isiI, r_isiT, r_isiL, isTy_ii, isTy_ib, isTy_il, isTy_it, isTy_tt, isTy_tl, isTy_ll, any_n, any_c, r_eqs, r_nes, r_repr, r_addT]
  have en : gEnum (mkV c F.n f) s = .ok ((List.range F.n).map fun (j : Nat) => VV.tup [.int j, .int (f j)], []) s := by
    unfold gEnum mkV
    rw [q_src]
    show Out.ok (enumV (mks F.n f), []) s = _
    rw [enum_mks]
  have sz : mkL false (mks F.n (stroke F f r)) s = .ok (.lst (mks F.n (stroke F f r))) s := mkL_f (sz_of (by have := ok.few; simp; omega))
  have sz2 : mkT (mks F.n (stroke F f r)) s = .ok (mkV true F.n (stroke F f r)) s := mkT_k (sz_of (by have := ok.few; simp; omega))
  simp only [fn__law_stroke, r_bind, r_assoc, r_lift, r_noX, r_var, r_lit, r_vvn, r_vvb, r_vvi, r_vvs, r_bin, r_neg, r_no, r_conj, r_disj, r_cmp, r_chain, r_ite, r_tup, r_lst, r_idx, r_sl, r_call, r_callk, r_bi, r_bm, r_comp, r_nil, r_cons, r_and1, r_and, r_or1, r_or, r_c0, r_c1, r_range, r_zip, r_enum, r_pl, r_s0, r_s, r_tnx, r_trt, r_tbk, r_tct, r_txc, r_cat, r_asg, r_sub, r_aug, r_expr, r_ret, r_ife, r_for, r_asgv, r_asgt, r_asgl, r_asg0, r_asgc, r_mapS, r_get0, r_gets, r_set0, r_sets, r_wip0, r_wip, r_trb, r_tri, r_ii, r_add, r_subi, r_gIdx, r_dcomp, r_scomp, r_sqt, r_sql, r_sqr, r_gCmp, r_lt, r_gt, r_le, r_ge, r_eqi, r_nei, r_isN, r_isI, r_inN, r_inI, r_neg', r_at0, r_at1, r_at2, r_ort, r_onx, r_lenl, r_lent, r_lenr, r_abs, r_intb, r_inti, r_max2, r_min2, r_tupt, r_tupl, r_tupr, r_listt, r_listl, r_listr, r_p6, r_p9, r_p11, r_p18, r_mkT0, r_mkF0, r_mkM0, r_mkT1, r_mkF1, r_mkM1, r_mkT2, r_mkF2, r_mkM2, r_mkT3, r_mkF3, r_mkM3, r_mkT4, r_mkF4, r_mkM4, r_mkT5, r_mkF5, r_mkM5, r_fld, r_gfld, r_isx, r_isxE, r_isxN, r_bcnt, r_catX, r_rai, r_tryk, r_tryN, r_tryR, r_tryX, r_oxc, r_bindX, sq_t, sq_f, q_seq, q_src, q_len, q_tup, q_list, q_asg, q_pur, q_srt, q_srl, optV_n, optV_s, r_isiI, r_isiT, r_isiL, isTy_ii, isTy_ib, isTy_il, isTy_it, isTy_tt, isTy_tl, isTy_ll, any_n, any_c, r_eqs, r_nes, r_repr, r_addT, List.map_cons, List.map_nil, List.replicate, List.cons_append, List.nil_append, Nat.reduceSub, e1, en, c1, sz, sz2]
  exact fin_same (mkV_pur _ _ _)
end
end Tw
set_option Elab.async false
set_option linter.all false
set_option autoImplicit false
set_option maxRecDepth 100000
/-! LibRef4: law k04's refusals. -/
namespace Tw
open PySem (PyData)
namespace K04
def fn__law_refused : Fn := ⟨4, 6, [.asg (.var 4) (.lit .non), .tryk [.ife (.cmp .eq (.var 0) (.lit (.int 0))) [.expr (.call false "towed" [(.var 1), (.var 2), (.var 3)])] [.ife (.cmp .eq (.var 0) (.lit (.int 1))) [.expr (.call false "stroked" [(.var 1), (.var 2), (.var 3)])] [.ife (.cmp .eq (.var 0) (.lit (.int 2))) [.expr (.call false "strokes_of" [(.var 1), (.lst false [(.lit (.int 0)), (.var 3), (.neg (.lit (.int 5)))])])] [.expr (.call false "rowed" [(.var 1), (.var 2), (.lst false [(.lit (.int 0)), (.var 3), (.neg (.lit (.int 5)))])])]]]] ["Behind", "NoBoat", "NoLine"] 5 4, .ife (.disj [(.no (.isx (.var 4) [.own "NoBoat"])), (.isx (.var 4) [.own "Behind", .own "NoLine"])]) [.ret (.lit .non)] [], .ret (.ite (.isx (.var 4) [.bas "LookupError"]) (.fld (.var 4) ({ cps := #[98, 111, 97, 116] })) (.lit .non))]⟩
end K04
section
variable {P : Pg} {F : Sea} {s : Hs} {b c : Bool} {f : Mk}
theorem ct_nb : (["Behind", "NoBoat", "NoLine"] : List String).contains "NoBoat" = true := by decide
theorem xs_nb : ([Xt.own "NoBoat"] : List Xt).any (subX "NoBoat") = true := by decide
theorem xs_ot : ([Xt.own "Behind", Xt.own "NoLine"] : List Xt).any (subX "NoBoat") = false := by decide
theorem xs_le : ([Xt.bas "LookupError"] : List Xt).any (subX "NoBoat") = true := by decide +kernel
theorem xF_nb : xF "NoBoat" = ({ cps := #[98, 111, 97, 116] } : PySem.Str) := by decide +kernel
theorem refused_ok (hR : P "_law_refused" = some K04.fn__law_refused) (hS : P "strokes_of" = some fn_strokes_of) (hP : HasTow P) (ok : F.Ok) (st : Stand F f) (h0 : 0 < F.n) (n : Nat) {k : Bool} {i : Int} (hi : NoB F i) {w : Nat} (hw : w < 4) :
    callF P (n + 8) k "_law_refused" [.int w, seaV b F, mkV c F.n f, .int i] s = .ok (.int i) s := by
  rw [callF_run hR rfl]
  have e0 := towed_x (s := s) (b := b) (k := false) hP (n + 2) (mkV c F.n f) hi
  have e1 := stroked_x (s := s) (b := b) (k := false) hP (n + 1) (mkV c F.n f) hi
  have e2 := strokes_x (s := s) (b := b) (k := false) hS hP (r := 0) h0 (n + 2) hi [.int (-5)]
  have e3 := rowed_x (s := s) (b := b) (c := c) (k := false) hP ok st (r := 0) h0 n hi [.int (-5)]
  have k3 : mkL false [VV.int 0, .int i, .int (-5)] s = .ok (.lst [.int 0, .int i, .int (-5)]) s := mkL_f (sz_of (by show 3 ≤ _; omega))
  have z0 : ((0 : Nat) : Int) = 0 := rfl
  rw [z0] at e2 e3
  show (exs (callF P (n + 7)) K04.fn__law_refused.body [some (.int w), some (seaV b F), some (mkV c F.n f), some (.int i), none, none] s).bind _ = _
  match w, hw with
  | 0, _ =>
    simp only [K04.fn__law_refused, r_bind, r_assoc, r_lift, r_noX, r_var, r_lit, r_vvn, r_vvb, r_vvi, r_vvs, r_bin, r_neg, r_no, r_conj, r_disj, r_cmp, r_chain, r_ite, r_tup, r_lst, r_idx, r_sl, r_call, r_callk, r_bi, r_bm, r_comp, r_nil, r_cons, r_and1, r_and, r_or1, r_or, r_c0, r_c1, r_range, r_zip, r_enum, r_pl, r_s0, r_s, r_tnx, r_trt, r_tbk, r_tct, r_txc, r_cat, r_asg, r_sub, r_aug, r_expr, r_ret, r_ife, r_for, r_asgv, r_asgt, r_asgl, r_asg0, r_asgc, r_mapS, r_get0, r_gets, r_set0, r_sets, r_wip0, r_wip, r_trb, r_tri, r_ii, r_add, r_subi, r_gIdx, r_dcomp, r_scomp, r_sqt, r_sql, r_sqr, r_gCmp, r_lt, r_gt, r_le, r_ge, r_eqi, r_nei, r_isN, r_isI, r_inN, r_inI, r_neg', r_at0, r_at1, r_at2, r_ort, r_onx, r_lenl, r_lent, r_lenr, r_abs, r_intb, r_inti, r_max2, r_min2, r_tupt, r_tupl, r_tupr, r_listt, r_listl, r_listr, r_p6, r_p9, r_p11, r_p18, r_mkT0, r_mkF0, r_mkM0, r_mkT1, r_mkF1, r_mkM1, r_mkT2, r_mkF2, r_mkM2, r_mkT3, r_mkF3, r_mkM3, r_mkT4, r_mkF4, r_mkM4, r_mkT5, r_mkF5, r_mkM5, r_fld, r_gfld, r_isx, r_isxE, r_isxN, r_bcnt, r_catX, r_rai, r_tryk, r_tryN, r_tryR, r_tryX, r_oxc, r_bindX, sq_t, sq_f, q_seq, q_src, q_len, q_tup, q_list, q_asg, q_pur, q_srt, q_srl, optV_n, optV_s, r_isiI, r_isiT, r_isiL, isTy_ii, isTy_ib, isTy_il, isTy_it, isTy_tt, isTy_tl, isTy_ll, any_n, any_c, r_eqs, r_nes, r_repr, r_addT, z0, decide_true, if_true, e0, ct_nb, xs_nb, xs_ot, xs_le, xF_nb, Bool.not_true, if_false, Bool.false_eq_true]
    exact fin_same rfl
  | 1, _ =>
    have z : ((1 : Nat) : Int) = 1 := rfl
    have d0 : decide ((1 : Int) = 0) = false := by decide
    simp only [K04.fn__law_refused, r_bind, r_assoc, r_lift, r_noX, r_var, r_lit, r_vvn, r_vvb, r_vvi, r_vvs, r_bin, r_neg, r_no, r_conj, r_disj, r_cmp, r_chain, r_ite, r_tup, r_lst, r_idx, r_sl, r_call, r_callk, r_bi, r_bm, r_comp, r_nil, r_cons, r_and1, r_and, r_or1, r_or, r_c0, r_c1, r_range, r_zip, r_enum, r_pl, r_s0, r_s, r_tnx, r_trt, r_tbk, r_tct, r_txc, r_cat, r_asg, r_sub, r_aug, r_expr, r_ret, r_ife, r_for, r_asgv, r_asgt, r_asgl, r_asg0, r_asgc, r_mapS, r_get0, r_gets, r_set0, r_sets, r_wip0, r_wip, r_trb, r_tri, r_ii, r_add, r_subi, r_gIdx, r_dcomp, r_scomp, r_sqt, r_sql, r_sqr, r_gCmp, r_lt, r_gt, r_le, r_ge, r_eqi, r_nei, r_isN, r_isI, r_inN, r_inI, r_neg', r_at0, r_at1, r_at2, r_ort, r_onx, r_lenl, r_lent, r_lenr, r_abs, r_intb, r_inti, r_max2, r_min2, r_tupt, r_tupl, r_tupr, r_listt, r_listl, r_listr, r_p6, r_p9, r_p11, r_p18, r_mkT0, r_mkF0, r_mkM0, r_mkT1, r_mkF1, r_mkM1, r_mkT2, r_mkF2, r_mkM2, r_mkT3, r_mkF3, r_mkM3, r_mkT4, r_mkF4, r_mkM4, r_mkT5, r_mkF5, r_mkM5, r_fld, r_gfld, r_isx, r_isxE, r_isxN, r_bcnt, r_catX, r_rai, r_tryk, r_tryN, r_tryR, r_tryX, r_oxc, r_bindX, sq_t, sq_f, q_seq, q_src, q_len, q_tup, q_list, q_asg, q_pur, q_srt, q_srl, optV_n, optV_s, r_isiI, r_isiT, r_isiL, isTy_ii, isTy_ib, isTy_il, isTy_it, isTy_tt, isTy_tl, isTy_ll, any_n, any_c, r_eqs, r_nes, r_repr, r_addT, z, d0, decide_true, e1, ct_nb, xs_nb, xs_ot, xs_le, xF_nb, Bool.not_true, if_true, if_false, Bool.false_eq_true]
    exact fin_same rfl
  | 2, _ =>
    have z : ((2 : Nat) : Int) = 2 := rfl
    have d0 : decide ((2 : Int) = 0) = false := by decide
    have d1 : decide ((2 : Int) = 1) = false := by decide
    simp only [K04.fn__law_refused, r_bind, r_assoc, r_lift, r_noX, r_var, r_lit, r_vvn, r_vvb, r_vvi, r_vvs, r_bin, r_neg, r_no, r_conj, r_disj, r_cmp, r_chain, r_ite, r_tup, r_lst, r_idx, r_sl, r_call, r_callk, r_bi, r_bm, r_comp, r_nil, r_cons, r_and1, r_and, r_or1, r_or, r_c0, r_c1, r_range, r_zip, r_enum, r_pl, r_s0, r_s, r_tnx, r_trt, r_tbk, r_tct, r_txc, r_cat, r_asg, r_sub, r_aug, r_expr, r_ret, r_ife, r_for, r_asgv, r_asgt, r_asgl, r_asg0, r_asgc, r_mapS, r_get0, r_gets, r_set0, r_sets, r_wip0, r_wip, r_trb, r_tri, r_ii, r_add, r_subi, r_gIdx, r_dcomp, r_scomp, r_sqt, r_sql, r_sqr, r_gCmp, r_lt, r_gt, r_le, r_ge, r_eqi, r_nei, r_isN, r_isI, r_inN, r_inI, r_neg', r_at0, r_at1, r_at2, r_ort, r_onx, r_lenl, r_lent, r_lenr, r_abs, r_intb, r_inti, r_max2, r_min2, r_tupt, r_tupl, r_tupr, r_listt, r_listl, r_listr, r_p6, r_p9, r_p11, r_p18, r_mkT0, r_mkF0, r_mkM0, r_mkT1, r_mkF1, r_mkM1, r_mkT2, r_mkF2, r_mkM2, r_mkT3, r_mkF3, r_mkM3, r_mkT4, r_mkF4, r_mkM4, r_mkT5, r_mkF5, r_mkM5, r_fld, r_gfld, r_isx, r_isxE, r_isxN, r_bcnt, r_catX, r_rai, r_tryk, r_tryN, r_tryR, r_tryX, r_oxc, r_bindX, sq_t, sq_f, q_seq, q_src, q_len, q_tup, q_list, q_asg, q_pur, q_srt, q_srl, optV_n, optV_s, r_isiI, r_isiT, r_isiL, isTy_ii, isTy_ib, isTy_il, isTy_it, isTy_tt, isTy_tl, isTy_ll, any_n, any_c, r_eqs, r_nes, r_repr, r_addT, z, d0, d1, decide_true, k3, e2, ct_nb, xs_nb, xs_ot, xs_le, xF_nb, Bool.not_true, if_true, if_false, Bool.false_eq_true]
    exact fin_same rfl
  | 3, _ =>
    have z : ((3 : Nat) : Int) = 3 := rfl
    have d0 : decide ((3 : Int) = 0) = false := by decide
    have d1 : decide ((3 : Int) = 1) = false := by decide
    have d2 : decide ((3 : Int) = 2) = false := by decide
    simp only [K04.fn__law_refused, r_bind, r_assoc, r_lift, r_noX, r_var, r_lit, r_vvn, r_vvb, r_vvi, r_vvs, r_bin, r_neg, r_no, r_conj, r_disj, r_cmp, r_chain, r_ite, r_tup, r_lst, r_idx, r_sl, r_call, r_callk, r_bi, r_bm, r_comp, r_nil, r_cons, r_and1, r_and, r_or1, r_or, r_c0, r_c1, r_range, r_zip, r_enum, r_pl, r_s0, r_s, r_tnx, r_trt, r_tbk, r_tct, r_txc, r_cat, r_asg, r_sub, r_aug, r_expr, r_ret, r_ife, r_for, r_asgv, r_asgt, r_asgl, r_asg0, r_asgc, r_mapS, r_get0, r_gets, r_set0, r_sets, r_wip0, r_wip, r_trb, r_tri, r_ii, r_add, r_subi, r_gIdx, r_dcomp, r_scomp, r_sqt, r_sql, r_sqr, r_gCmp, r_lt, r_gt, r_le, r_ge, r_eqi, r_nei, r_isN, r_isI, r_inN, r_inI, r_neg', r_at0, r_at1, r_at2, r_ort, r_onx, r_lenl, r_lent, r_lenr, r_abs, r_intb, r_inti, r_max2, r_min2, r_tupt, r_tupl, r_tupr, r_listt, r_listl, r_listr, r_p6, r_p9, r_p11, r_p18, r_mkT0, r_mkF0, r_mkM0, r_mkT1, r_mkF1, r_mkM1, r_mkT2, r_mkF2, r_mkM2, r_mkT3, r_mkF3, r_mkM3, r_mkT4, r_mkF4, r_mkM4, r_mkT5, r_mkF5, r_mkM5, r_fld, r_gfld, r_isx, r_isxE, r_isxN, r_bcnt, r_catX, r_rai, r_tryk, r_tryN, r_tryR, r_tryX, r_oxc, r_bindX, sq_t, sq_f, q_seq, q_src, q_len, q_tup, q_list, q_asg, q_pur, q_srt, q_srl, optV_n, optV_s, r_isiI, r_isiT, r_isiL, isTy_ii, isTy_ib, isTy_il, isTy_it, isTy_tt, isTy_tl, isTy_ll, any_n, any_c, r_eqs, r_nes, r_repr, r_addT, z, d0, d1, d2, decide_true, k3, e3, ct_nb, xs_nb, xs_ot, xs_le, xF_nb, Bool.not_true, if_true, if_false, Bool.false_eq_true]
    exact fin_same rfl
end
end Tw
set_option Elab.async false
set_option linter.all false
set_option autoImplicit false
set_option maxRecDepth 100000
/-! LawK04: strokes, and whom they tow. -/
namespace Tw.K04
open Tw
open PySem (PyData Str)
def fn__law_right : Fn := ⟨1, 13, [.asg (.var 1) (.call false "_law_river" [(.var 0), (.lit (.int 8)), (.lit (.int 3))]), .asg (.tup [(.var 2), (.var 3)]) (.tup [(.call false "_law_lies" [(.var 0), (.var 1), (.lit (.int 4))]), (.call false "_law_listed" [(.var 1)])]), .asg (.var 5) (.comp false (.call false "_law_take" [(.var 0), (.idx (.var 1) (.lit (.int 0)))]) (.var 4) (.range [(.call false "_law_take" [(.var 0), (.lit (.int 31))])]) [] [4]), .asg (.var 6) (.var 2), .forr (.var 7) (.pl (.var 5)) [.asg (.tup [(.var 8), (.var 9)]) (.tup [(.call false "_law_going" [(.var 1), (.var 6), (.var 7)]), (.call false "_law_stroke" [(.var 1), (.var 6), (.var 7)])]), .asg (.var 10) (.lst true [(.call true "towed" [(.var 1), (.var 6), (.var 7)]), (.callk true "towed" [2, 1, 0] [(.var 7), (.bi false .list [(.var 6)]), (.var 3)])]), .ife (.disj [(.no (.call false "_law_same" [(.var 10), (.lst false [(.var 8), (.var 8)])])), (.no (.call false "_law_holds" [(.var 1), (.var 9)]))]) [.ret (.lit (.bl false))] [], .expr (.bm .append (.idx (.var 10) (.lit (.int 0))) [(.lit (.str ({ cps := #[109, 111, 114, 101] })))]), .ife (.no (.call false "_law_same" [(.call false "towed" [(.var 1), (.var 6), (.var 7)]), (.var 8)])) [.ret (.lit (.bl false))] [], .asg (.var 10) (.lst true [(.call true "stroked" [(.var 1), (.var 6), (.var 7)]), (.callk true "stroked" [2, 1, 0] [(.var 7), (.bi false .list [(.var 6)]), (.var 3)])]), .ife (.no (.call false "_law_same" [(.var 10), (.lst false [(.var 9), (.var 9)])])) [.ret (.lit (.bl false))] [], .asg (.var 6) (.var 9)], .asg (.var 10) (.lst true [(.call true "rowed" [(.var 1), (.var 2), (.var 5)]), (.callk true "rowed" [2, 1, 0] [(.bi false .tuple [(.var 5)]), (.bi false .list [(.var 2)]), (.var 3)])]), .ife (.no (.call false "_law_same" [(.var 10), (.lst false [(.var 6), (.var 6)])])) [.ret (.lit (.bl false))] [], .asg (.var 8) (.comp false (.bm .count (.var 5) [(.var 7)]) (.var 7) (.range [(.idx (.var 1) (.lit (.int 0)))]) [] [7]), .expr (.bm .append (.call true "strokes_of" [(.var 1), (.var 5)]) [(.lit (.str ({ cps := #[109, 111, 114, 101] })))]), .ife (.no (.call false "_law_same" [(.lst false [(.call false "strokes_of" [(.var 1), (.var 5)]), (.callk false "strokes_of" [1, 0] [(.bi false .tuple [(.var 5)]), (.var 3)])]), (.lst false [(.var 8), (.var 8)])])) [.ret (.lit (.bl false))] [], .ife (.no (.call false "_law_same" [(.call false "rowed" [(.var 1), (.bi false .list [(.var 2)]), (.lst false [])]), (.var 2)])) [.ret (.lit (.bl false))] [], .asg (.var 11) (.call false "_law_of" [(.var 0), (.lst false [(.neg (.lit (.int 1))), (.idx (.var 1) (.lit (.int 0))), (.bin false .add (.idx (.var 1) (.lit (.int 0))) (.lit (.int 5))), (.bin false .pow (.lit (.int 10)) (.lit (.int 9)))])]), .asg (.var 10) (.comp true (.call true "_law_refused" [(.var 12), (.var 1), (.var 2), (.var 11)]) (.var 12) (.range [(.lit (.int 4))]) [] [12]), .ret (.conj [(.call false "_law_same" [(.var 10), (.bin false .mul (.lst false [(.var 11)]) (.lit (.int 4)))]), (.cmp .eq (.var 3) (.call false "_law_listed" [(.var 1)]))])]⟩
def fn_law : Fn := ⟨1, 5, [.asg (.var 1) (.call false "_law_cells" [(.var 0), (.lit (.int 3))]), .forr (.var 2) (.range [(.bi false .len [(.var 1)])]) [.asg (.var 3) (.call true "_law_box" [(.var 1), (.var 2)]), .ife (.no (.bi false .all [(.comp false (.call false "_law_right" [(.var 3)]) (.var 4) (.range [(.lit (.int 3))]) [] [4])])) [.ret (.lit (.bl false))] []], .ret (.lit (.bl true))]⟩
structure Has (P : Pg) : Prop extends HasLies P, HasTow P where
  strokes : P "strokes_of" = some fn_strokes_of
  box : P "_law_box" = some fn__law_box
  cells : P "_law_cells" = some fn__law_cells
  same : P "_law_same" = some fn__law_same
  listed : P "_law_listed" = some fn__law_listed
  river : P "_law_river" = some fn__law_river
  holds : P "_law_holds" = some fn__law_holds
  going : P "_law_going" = some fn__law_going
  lstroke : P "_law_stroke" = some fn__law_stroke
  refused : P "_law_refused" = some fn__law_refused
  right : P "_law_right" = some fn__law_right
  law : P "law" = some fn_law
section
variable {P : Pg} {F : Sea} {T : Hs} {f : Mk}
theorem ints_d {l : List Nat} (T : Hs) (n : Nat) : mapO (toD n T) (l.map fun (j : Nat) => VV.int j) = some (l.map fun (j : Nat) => PyData.int j) := mapO_to fun j _ => toD_int n j
theorem kid_at {E : Hs} {i : Nat} {xs : List VV} (h : E[i]? = some (.lst xs)) : kid (T ++ E) (T.length + i) = some xs := kid_of (by rw [List.getElem?_append_right (by omega), Nat.add_sub_cancel_left]; exact h)
/-- towed, twice, each a list of its own; both in a list -/
theorem heard1 (hP : Has P) (n : Nat) (ok : F.Ok) (st : Stand F f) {r : Nat} (hr : r < F.n) : ∃ g1 g2 : Hs, g1.length = 2 ∧ g2.length = 2 ∧
    callF P (n + 5) true "towed" [seaV true F, mkV true F.n f, .int r] T = .ok (.ref (T.length + 2)) (T ++ (g1 ++ [.lst (towsL F f r)])) ∧
    callF P (n + 5) true "towed" [seaV false F, .lst (mks F.n f), .int r] (T ++ (g1 ++ [.lst (towsL F f r)])) = .ok (.ref (T.length + 5)) (T ++ ((g1 ++ [.lst (towsL F f r)]) ++ (g2 ++ [.lst (towsL F f r)]))) := by
  obtain ⟨g1, h1, e1⟩ := towed_k (s := T) (b := true) hP.toHasTow ok st hr (mkV true F.n f) (fun S => q_seq) n
  obtain ⟨g2, h2, e2⟩ := towed_k (s := T ++ (g1 ++ [.lst (towsL F f r)])) (b := false) hP.toHasTow ok st hr (.lst (mks F.n f)) (fun S => rfl) n
  refine ⟨g1, g2, h1, h2, e1, ?_⟩
  rw [e2]
  rw [List.append_assoc]
  congr 2
  rw [List.length_append, List.length_append, h1]
  rfl
/-- what is heard lies behind T -/
def hE (T : Hs) (F : Sea) (f : Mk) (r : Nat) (a b c d : Ob) : Hs := [a, b, .lst (towsL F f r), c, d, .lst (towsL F f r), .lst [.ref (T.length + 2), .ref (T.length + 5)]]
def towsD (F : Sea) (f : Mk) (r : Nat) : PyData := .list ((tows F f r).map fun (j : Nat) => .int j)
theorem towsV_d (n : Nat) {r : Nat} : toD (n + 1) T (towsV F f r) = some (towsD F f r) := toD_sq (b := false) (ints_d T n)
theorem heard_d (n : Nat) {r : Nat} {a b c d : Ob} : toD (n + 2) (T ++ hE T F f r a b c d) (.ref (T.length + 6)) = some (.list [towsD F f r, towsD F f r]) := by
  have k6 : kid (T ++ hE T F f r a b c d) (T.length + 6) = some [.ref (T.length + 2), .ref (T.length + 5)] := kid_at rfl
  have k2 : kid (T ++ hE T F f r a b c d) (T.length + 2) = some (towsL F f r) := kid_at rfl
  have k5 : kid (T ++ hE T F f r a b c d) (T.length + 5) = some (towsL F f r) := kid_at rfl
  exact toD_ref k6 (mapO_cons (toD_ref k2 (ints_d _ n)) (mapO_cons (toD_ref k5 (ints_d _ n)) mapO_nil))
theorem wgts_ints : ∀ {l : List Nat}, (∀ j ∈ l, j < 10 ^ 20) → wgt.wgts (l.map fun (j : Nat) => PyData.int j) = l.length
  | [], _ => rfl
  | j :: l, h => by
    have h1 := h j List.mem_cons_self
    show wgt (.int (j : Int)) + wgt.wgts _ = _
    rw [wgts_ints fun i hi => h i (List.mem_cons_of_mem _ hi)]
    show (if (j : Int).natAbs < 10 ^ 30 then 1 else 1000000) + l.length = _
    rw [if_pos (by rw [Int.natAbs_natCast]; exact Nat.lt_trans h1 (by decide)), List.length_cons, Nat.add_comm]
theorem towsD_w (ok : F.Ok) {r : Nat} : wgt (towsD F f r) ≤ 65 := by
  show 1 + wgt.wgts _ ≤ 65
  have few := ok.few
  have hl : (tows F f r).length ≤ F.n := by
    unfold tows
    have := List.length_filter_le (towB F f r) (List.range F.n)
    rwa [List.length_range] at this
  rw [wgts_ints fun j hj => by
    have := (tows_mem.mp hj).1
    exact Nat.lt_of_lt_of_le (Nat.lt_of_lt_of_le this few) (by decide)]
  omega
theorem same1 (hP : Has P) (ok : F.Ok) (n : Nat) {r : Nat} {a b c d : Ob} : callF P (n + 1) false "_law_same" [.ref (T.length + 6), .lst [towsV F f r, towsV F f r]] (T ++ hE T F f r a b c d) = .ok (.bl true) (T ++ hE T F f r a b c d) := by
  refine same_ok hP.same n (d := .list [towsD F f r, towsD F f r]) (heard_d 10) ?_ ?_
  · exact toD_sq (b := false) (mapO_cons (towsV_d 10) (mapO_cons (towsV_d 10) mapO_nil))
  · have := towsD_w (f := f) (r := r) ok
    show 1 + (wgt (towsD F f r) + (wgt (towsD F f r) + 0)) ≤ 400000
    omega
def bodyOf (st : Option Stm) : List Stm := match st with
  | some (Stm.forr _ _ b) => b
  | _ => []
def turnS : List Stm := bodyOf (fn__law_right.body[4]?)
theorem turn_a (hP : Has P) (n : Nat) (ok : F.Ok) (st : Stand F f) {r : Nat} (hr : r < F.n) (o0 o2 o4 o5 o8 o9 o10 o11 o12 : Option VV) : ∃ a b c d : Ob,
    exs (callF P (n + 8)) (turnS.take 3) [o0, some (seaV true F), o2, some (seaV false F), o4, o5, some (mkV true F.n f), some (.int r), o8, o9, o10, o11, o12] T =
      .ok (.nx [o0, some (seaV true F), o2, some (seaV false F), o4, o5, some (mkV true F.n f), some (.int r), some (towsV F f r), some (mkV true F.n (stroke F f r)), some (.ref (T.length + 6)), o11, o12]) (T ++ hE T F f r a b c d) := by
  have e1 := going_ok (s := T) (b := true) (c := true) hP.going ok st hr (n + 7)
  have e2 := lstroke_ok (s := T) (b := true) (c := true) hP.going hP.lstroke ok st hr (n + 6)
  obtain ⟨g1, g2, l1, l2, e3, e4⟩ := heard1 (T := T) hP (n + 3) ok st hr
  match g1, g2, l1, l2 with
  | [a, b], [c, d], _, _ =>
    refine ⟨a, b, c, d, ?_⟩
    have few := ok.few
    have kl : ∀ S, mkL false (mks F.n f) S = .ok (.lst (mks F.n f)) S := fun S => mkL_f (sz_of (by simp; omega))
    have k3 : ∀ S, biV false .list [mkV true F.n f] S = .ok (.lst (mks F.n f)) S := fun S => by
      show biV false .list [sq true (mks F.n f)] S = _
      rw [q_list]
      exact kl S
    have k4 : mkL true [.ref (T.length + 2), .ref (T.length + 5)] (T ++ (([a, b] ++ [Ob.lst (towsL F f r)]) ++ ([c, d] ++ [Ob.lst (towsL F f r)]))) = .ok (.ref (T.length + 6)) (T ++ hE T F f r a b c d) := by
      have e : (T ++ (([a, b] ++ [Ob.lst (towsL F f r)]) ++ ([c, d] ++ [Ob.lst (towsL F f r)]))).length = T.length + 6 := by simp
      rw [mkL_t (sz_of (by show 2 ≤ _; omega)), e, List.append_assoc]
      rfl
    have sm := same1 (T := T) (f := f) (r := r) (a := a) (b := b) (c := c) (d := d) hP ok (n + 7)
    have ho : ∀ S, callF P (n + 8) false "_law_holds" [seaV true F, mkV true F.n (stroke F f r)] S = .ok (.bl true) S := fun S => by
      have := holds_ok (b := true) (s := S) (v := mkV true F.n (stroke F f r)) (m := stroke F f r) hP.holds ok (n + 7) q_seq
      rw [this, show (F.ropes.all fun q => decide (stroke F f r q.1 - q.2.2 ≤ stroke F f r q.2.1)) = true from List.all_eq_true.mpr fun q hq => decide_eq_true (stroke_stand ok st hr q hq)]
    have sz : ∀ S, mkL false [towsV F f r, towsV F f r] S = .ok (.lst [towsV F f r, towsV F f r]) S := fun S => mkL_f (sz_of (by show 2 ≤ _; omega))
    have pk : [2, 1, 0].filterMap (fun i => [VV.int (r : Int), .lst (mks F.n f), seaV false F][i]?) = [seaV false F, .lst (mks F.n f), .int r] := rfl
    simp only [turnS, bodyOf, fn__law_right, List.getElem?_cons_succ, List.getElem?_cons_zero, List.take, r_bind, r_assoc, r_lift, r_noX, r_var, r_lit, r_vvn, r_vvb, r_vvi, r_vvs, r_bin, r_neg, r_no, r_conj, r_disj, r_cmp, r_chain, r_ite, r_tup, r_lst, r_idx, r_sl, r_call, r_callk, r_bi, r_bm, r_comp, r_nil, r_cons, r_and1, r_and, r_or1, r_or, r_c0, r_c1, r_range, r_zip, r_enum, r_pl, r_s0, r_s, r_tnx, r_trt, r_tbk, r_tct, r_txc, r_cat, r_asg, r_sub, r_aug, r_expr, r_ret, r_ife, r_for, r_asgv, r_asgt, r_asgl, r_asg0, r_asgc, r_mapS, r_get0, r_gets, r_set0, r_sets, r_wip0, r_wip, r_trb, r_tri, r_ii, r_add, r_subi, r_gIdx, r_dcomp, r_scomp, r_sqt, r_sql, r_sqr, r_gCmp, r_lt, r_gt, r_le, r_ge, r_eqi, r_nei, r_isN, r_isI, r_inN, r_inI, r_neg', r_at0, r_at1, r_at2, r_ort, r_onx, r_lenl, r_lent, r_lenr, r_abs, r_intb, r_inti, r_max2, r_min2, r_tupt, r_tupl, r_tupr, r_listt, r_listl, r_listr, r_p6, r_p9, r_p11, r_p18, r_mkT0, r_mkF0, r_mkM0, r_mkT1, r_mkF1, r_mkM1, r_mkT2, r_mkF2, r_mkM2, r_mkT3, r_mkF3, r_mkM3, r_mkT4, r_mkF4, r_mkM4, r_mkT5, r_mkF5, r_mkM5, r_fld, r_gfld, r_isx, r_isxE, r_isxN, r_bcnt, r_catX, r_rai, r_tryk, r_tryN, r_tryR, r_tryX, r_oxc, r_bindX, sq_t, sq_f, q_seq, q_src, q_len, q_tup, q_list, q_asg, q_pur, q_srt, q_srl, optV_n, optV_s, r_isiI, r_isiT, r_isiL, isTy_ii, isTy_ib, isTy_il, isTy_it, isTy_tt, isTy_tl, isTy_ll, any_n, any_c, r_eqs, r_nes, r_repr, r_addT, e1, e2, e3, k3, pk, e4, k4, sz, sm, ho, Bool.not_true, if_false, Bool.false_eq_true]
def moreS : Str := { cps := #[109, 111, 114, 101] }
def hE2 (T : Hs) (F : Sea) (f : Mk) (r : Nat) (a b c d : Ob) : Hs := [a, b, .lst (towsL F f r ++ [.str moreS]), c, d, .lst (towsL F f r), .lst [.ref (T.length + 2), .ref (T.length + 5)]]
theorem marks_w (ok : F.Ok) {g : Mk} (hg : ∀ i, i < F.n → (g i).natAbs < 10 ^ 30) : wgt (.tuple ((List.range F.n).map fun i => .int (g i))) ≤ 65 := by
  have key : ∀ l : List Nat, (∀ j ∈ l, (g j).natAbs < 10 ^ 30) → wgt.wgts (l.map fun i => PyData.int (g i)) = l.length := by
    intro l
    induction l with
    | nil => intro _; rfl
    | cons j l ih =>
      intro h
      show (if (g j).natAbs < 10 ^ 30 then 1 else 1000000) + wgt.wgts _ = _
      rw [if_pos (h j List.mem_cons_self), ih fun i hi => h i (List.mem_cons_of_mem _ hi), List.length_cons, Nat.add_comm]
  show 1 + wgt.wgts _ ≤ 65
  rw [key _ fun j hj => hg j (List.mem_range.mp hj), List.length_range]
  have := ok.few
  omega
theorem turn_b (hP : Has P) (n : Nat) (ok : F.Ok) (st : Stand F f) {r : Nat} (hr : r < F.n) (hb : ∀ i, i < F.n → (stroke F f r i).natAbs < 10 ^ 30) (o0 o2 o4 o5 o11 o12 : Option VV) (a b c d : Ob) : ∃ (p10 : Option VV) (E : Hs),
    exs (callF P (n + 8)) (turnS.drop 3) [o0, some (seaV true F), o2, some (seaV false F), o4, o5, some (mkV true F.n f), some (.int r), some (towsV F f r), some (mkV true F.n (stroke F f r)), some (.ref (T.length + 6)), o11, o12] (T ++ hE T F f r a b c d) =
      .ok (.nx [o0, some (seaV true F), o2, some (seaV false F), o4, o5, some (mkV true F.n (stroke F f r)), some (.int r), some (towsV F f r), some (mkV true F.n (stroke F f r)), p10, o11, o12]) (T ++ E) := by
  have few := ok.few
  have k6 : kid (T ++ hE T F f r a b c d) (T.length + 6) = some [.ref (T.length + 2), .ref (T.length + 5)] := kid_at rfl
  have k2 : kid (T ++ hE T F f r a b c d) (T.length + 2) = some (towsL F f r) := kid_at rfl
  have hl : (towsL F f r).length ≤ F.n := by
    rw [List.length_map]
    unfold tows
    have := List.length_filter_le (towB F f r) (List.range F.n)
    rwa [List.length_range] at this
  have ix : atV [VV.ref (T.length + 2), VV.ref (T.length + 5)] 0 = some (.ref (T.length + 2)) := rfl
  have ty : bmTy .append (.ref (T.length + 2)) (T ++ hE T F f r a b c d) = some () := by
    show (kid (T ++ hE T F f r a b c d) (T.length + 2)).map _ = _
    rw [k2]
    rfl
  have ap : bmV .append (.ref (T.length + 2)) [.str moreS] (T ++ hE T F f r a b c d) = .ok .non (T ++ hE2 T F f r a b c d) := by
    show (match kid (T ++ hE T F f r a b c d) (T.length + 2) with
      | some xs => if xs.length < szL then Out.ok VV.non ((T ++ hE T F f r a b c d).set (T.length + 2) (.lst (xs ++ [VV.str moreS]))) else .bad
      | none => .bad) = _
    rw [k2]
    dsimp only
    rw [if_pos (by unfold szL; omega), List.set_append_right _ _ (by omega), Nat.add_sub_cancel_left]
    rfl
  have tw : ∀ S, callF P (n + 8) false "towed" [seaV true F, mkV true F.n f, .int r] S = .ok (towsV F f r) S := fun S => towed_ok hP.toHasTow ok st hr _ (fun S => q_seq) (n + 3)
  have s1 : ∀ S, callF P (n + 8) false "_law_same" [towsV F f r, towsV F f r] S = .ok (.bl true) S := fun S => same_ok hP.same (n + 7) (towsV_d 11) (towsV_d 11) (Nat.le_trans (towsD_w ok) (by decide))
  have q1 : ∀ S, callF P (n + 8) true "stroked" [seaV true F, mkV true F.n f, .int r] S = .ok (mkV true F.n (stroke F f r)) S := fun S => stroked_ok hP.toHasTow ok st hr (n + 2)
  have q2 : ∀ S, callF P (n + 8) true "stroked" [seaV false F, .lst (mks F.n f), .int r] S = .ok (mkV true F.n (stroke F f r)) S := fun S => stroked_ok (c := false) hP.toHasTow ok st hr (n + 2)
  have kl : ∀ S, mkL false (mks F.n f) S = .ok (.lst (mks F.n f)) S := fun S => mkL_f (sz_of (by simp; omega))
  have k3 : ∀ S, biV false .list [mkV true F.n f] S = .ok (.lst (mks F.n f)) S := fun S => by
    show biV false .list [sq true (mks F.n f)] S = _
    rw [q_list]
    exact kl S
  have pk : [2, 1, 0].filterMap (fun i => [VV.int (r : Int), .lst (mks F.n f), seaV false F][i]?) = [seaV false F, .lst (mks F.n f), .int r] := rfl
  have k4 : ∀ S, mkL true [mkV true F.n (stroke F f r), mkV true F.n (stroke F f r)] S = .ok (.ref S.length) (S ++ [Ob.lst [mkV true F.n (stroke F f r), mkV true F.n (stroke F f r)]]) := fun S => mkL_t (sz_of (by show 2 ≤ _; omega))
  have sz : ∀ S, mkL false [mkV true F.n (stroke F f r), mkV true F.n (stroke F f r)] S = .ok (.lst [mkV true F.n (stroke F f r), mkV true F.n (stroke F f r)]) S := fun S => mkL_f (sz_of (by show 2 ≤ _; omega))
  have s2 : ∀ S : Hs, callF P (n + 8) false "_law_same" [.ref S.length, .lst [mkV true F.n (stroke F f r), mkV true F.n (stroke F f r)]] (S ++ [Ob.lst [mkV true F.n (stroke F f r), mkV true F.n (stroke F f r)]]) = .ok (.bl true) (S ++ [Ob.lst [mkV true F.n (stroke F f r), mkV true F.n (stroke F f r)]]) := fun S => by
    have kk : kid (S ++ [Ob.lst [mkV true F.n (stroke F f r), mkV true F.n (stroke F f r)]]) S.length = some [mkV true F.n (stroke F f r), mkV true F.n (stroke F f r)] := kid_at (T := S) (i := 0) rfl
    have md := fun T => toD_marks (s := T) 10 true F.n (stroke F f r)
    have w := marks_w ok hb
    refine same_ok hP.same (n + 7) (toD_ref kk (mapO_cons (md _) (mapO_cons (md _) mapO_nil))) (toD_sq (b := false) (mapO_cons (md _) (mapO_cons (md _) mapO_nil))) ?_
    show 1 + (wgt (.tuple ((List.range F.n).map fun i => .int (stroke F f r i))) + (wgt (.tuple ((List.range F.n).map fun i => .int (stroke F f r i))) + 0)) ≤ 400000
    omega
  refine ⟨some (.ref (T ++ hE2 T F f r a b c d).length), hE2 T F f r a b c d ++ [Ob.lst [mkV true F.n (stroke F f r), mkV true F.n (stroke F f r)]], ?_⟩
  rw [← List.append_assoc]
  unfold moreS at ap
  simp only [turnS, bodyOf, fn__law_right, List.getElem?_cons_succ, List.getElem?_cons_zero, List.drop, r_bind, r_assoc, r_lift, r_noX, r_var, r_lit, r_vvn, r_vvb, r_vvi, r_vvs, r_bin, r_neg, r_no, r_conj, r_disj, r_cmp, r_chain, r_ite, r_tup, r_lst, r_idx, r_sl, r_call, r_callk, r_bi, r_bm, r_comp, r_nil, r_cons, r_and1, r_and, r_or1, r_or, r_c0, r_c1, r_range, r_zip, r_enum, r_pl, r_s0, r_s, r_tnx, r_trt, r_tbk, r_tct, r_txc, r_cat, r_asg, r_sub, r_aug, r_expr, r_ret, r_ife, r_for, r_asgv, r_asgt, r_asgl, r_asg0, r_asgc, r_mapS, r_get0, r_gets, r_set0, r_sets, r_wip0, r_wip, r_trb, r_tri, r_ii, r_add, r_subi, r_gIdx, r_dcomp, r_scomp, r_sqt, r_sql, r_sqr, r_gCmp, r_lt, r_gt, r_le, r_ge, r_eqi, r_nei, r_isN, r_isI, r_inN, r_inI, r_neg', r_at0, r_at1, r_at2, r_ort, r_onx, r_lenl, r_lent, r_lenr, r_abs, r_intb, r_inti, r_max2, r_min2, r_tupt, r_tupl, r_tupr, r_listt, r_listl, r_listr, r_p6, r_p9, r_p11, r_p18, r_mkT0, r_mkF0, r_mkM0, r_mkT1, r_mkF1, r_mkM1, r_mkT2, r_mkF2, r_mkM2, r_mkT3, r_mkF3, r_mkM3, r_mkT4, r_mkF4, r_mkM4, r_mkT5, r_mkF5, r_mkM5, r_fld, r_gfld, r_isx, r_isxE, r_isxN, r_bcnt, r_catX, r_rai, r_tryk, r_tryN, r_tryR, r_tryX, r_oxc, r_bindX, sq_t, sq_f, q_seq, q_src, q_len, q_tup, q_list, q_asg, q_pur, q_srt, q_srl, optV_n, optV_s, r_isiI, r_isiT, r_isiL, isTy_ii, isTy_ib, isTy_il, isTy_it, isTy_tt, isTy_tl, isTy_ll, any_n, any_c, r_eqs, r_nes, r_repr, r_addT, k6, ix, ty, ap, tw, s1, q1, k3, pk, q2, k4, sz, s2, Bool.not_true, if_false, Bool.false_eq_true]
theorem turn_ok (hP : Has P) (n : Nat) (ok : F.Ok) (st : Stand F f) {r : Nat} (hr : r < F.n) (hb : ∀ i, i < F.n → (stroke F f r i).natAbs < 10 ^ 30) (o0 o2 o4 o5 o8 o9 o10 o11 o12 : Option VV) : ∃ (p8 p9 p10 : Option VV) (E : Hs),
    exs (callF P (n + 8)) turnS [o0, some (seaV true F), o2, some (seaV false F), o4, o5, some (mkV true F.n f), some (.int r), o8, o9, o10, o11, o12] T =
      .ok (.nx [o0, some (seaV true F), o2, some (seaV false F), o4, o5, some (mkV true F.n (stroke F f r)), some (.int r), p8, p9, p10, o11, o12]) (T ++ E) := by
  obtain ⟨a, b, c, d, e1⟩ := turn_a (T := T) hP n ok st hr o0 o2 o4 o5 o8 o9 o10 o11 o12
  obtain ⟨p10, E, e2⟩ := turn_b (T := T) hP n ok st hr hb o0 o2 o4 o5 o11 o12 a b c d
  refine ⟨some (towsV F f r), some (mkV true F.n (stroke F f r)), p10, E, ?_⟩
  rw [show turnS = turnS.take 3 ++ turnS.drop 3 from (List.take_append_drop 3 _).symm, exs_app, e1]
  exact e2
theorem stroke_top {r j : Nat} : stroke F f r j ≤ f j + 1 := by
  unfold stroke
  split <;> omega
theorem rowS_bd {B : Int} : ∀ (rs : List Nat) (f : Mk) (C : Int), (∀ i, i < F.n → 0 ≤ f i ∧ f i ≤ C) → ∀ i, i < F.n → 0 ≤ rowS F f rs i ∧ rowS F f rs i ≤ C + rs.length
  | [], f, C, h, i, hi => by have := h i hi; simp [rowS]; exact this
  | r :: rs, f, C, h, i, hi => by
    have := rowS_bd (B := B) rs (stroke F f r) (C + 1) (fun j hj => by
      have h1 := h j hj
      have h2 := stroke_up (F := F) (f := f) (r := r) (j := j)
      have h3 := stroke_top (F := F) (f := f) (r := r) (j := j)
      omega) i hi
    rw [List.length_cons]
    show 0 ≤ rowS F (stroke F f r) rs i ∧ rowS F (stroke F f r) rs i ≤ _
    omega
theorem rowS_take {rs : List Nat} {j r : Nat} (h : rs[j]? = some r) : rowS F f (rs.take (j + 1)) = stroke F (rowS F f (rs.take j)) r := by
  unfold rowS
  rw [List.take_succ, h, List.foldl_append]
  rfl
section
variable {s : Hs} {k : Nat}
theorem turns_ok (hP : Has P) (n : Nat) (ok : F.Ok) (st : Stand F f) {rs : List Nat} (hr : ∀ r ∈ rs, r < F.n) (hf : ∀ i, i < F.n → 0 ≤ f i ∧ f i ≤ 4) (hl : rs.length ≤ 64) (bx : Bx) (o4 : Option VV) :
    ∃ (o7 o8 o9 o10 : Option VV) (ex : Hs), forL [] (stepF (callF P (n + 8)) (.var 7) turnS) (rsV rs) [some (.ref k), some (seaV true F), some (mkV true F.n f), some (seaV false F), o4, some (.lst (rsV rs)), some (mkV true F.n f), none, none, none, none, none, none] (St s k bx []) =
      .ok (.nx [some (.ref k), some (seaV true F), some (mkV true F.n f), some (seaV false F), o4, some (.lst (rsV rs)), some (mkV true F.n (rowS F f rs)), o7, o8, o9, o10, none, none]) (St s k bx ex) := by
  obtain ⟨σ', S', e, o7, o8, o9, o10, ex, rfl, rfl⟩ := forL_ok (step := stepF (callF P (n + 8)) (.var 7) turnS)
    (fun j σ S => ∃ (o7 o8 o9 o10 : Option VV) (ex : Hs), σ = [some (.ref k), some (seaV true F), some (mkV true F.n f), some (seaV false F), o4, some (.lst (rsV rs)), some (mkV true F.n (rowS F f (rs.take j))), o7, o8, o9, o10, none, none] ∧ S = St s k bx ex)
    (rsV rs) [some (.ref k), some (seaV true F), some (mkV true F.n f), some (seaV false F), o4, some (.lst (rsV rs)), some (mkV true F.n f), none, none, none, none, none, none] (St s k bx []) 0 ⟨none, none, none, none, [], rfl, rfl⟩ fun i x σ S hx hI => by
      obtain ⟨r, hr', rfl⟩ := map_at hx
      obtain ⟨o7, o8, o9, o10, ex, rfl, rfl⟩ := hI
      have hm := List.mem_of_getElem? hr'
      have hs : ∀ q ∈ rs.take i, q < F.n := fun q hq => hr q (List.mem_of_mem_take hq)
      have bd := rowS_bd (B := 0) (F := F) (rs.take (i + 1)) f 4 hf
      rw [rowS_take hr'] at bd
      have li := (List.getElem?_eq_some_iff.mp hr').1
      obtain ⟨p8, p9, p10, E, e⟩ := turn_ok (T := St s k bx ex) (f := rowS F f (rs.take i)) (r := r) hP n ok (rowS_stand ok (rs.take i) st hs) (hr r hm) (fun j hj => by
        have h1 := bd j hj
        rw [List.length_take] at h1
        have : (stroke F (rowS F f (rs.take i)) r j).natAbs ≤ 1000 := by omega
        exact Nat.lt_of_le_of_lt this (by decide)) (some (.ref k)) (some (mkV true F.n f)) o4 (some (.lst (rsV rs))) o8 o9 o10 none none
      rw [Nat.zero_add, rowS_take hr', stepF_v]
      refine ⟨_, _, e, some (.int r), p8, p9, p10, ex ++ E, rfl, ?_⟩
      unfold St
      rw [List.append_assoc]
  rw [Nat.zero_add, List.length_map, List.take_length] at e
  exact ⟨o7, o8, o9, o10, ex, e⟩
theorem strokes_k {T : Hs} {b d : Bool} (hP : Has P) (ok : F.Ok) {rs : List Nat} (hr : ∀ r ∈ rs, r < F.n) (hl : rs.length ≤ szL) (n : Nat) : callF P (n + 5) true "strokes_of" [seaV b F, sq d (rsV rs)] T = .ok (.ref T.length) (T ++ [.lst (cntL F rs)]) := by
  rw [callF_run hP.strokes rfl]
  show (exs (callF P (n + 4)) fn_strokes_of.body [some (seaV b F), some (sq d (rsV rs)), none, none] T).bind _ = _
  rw [strokes_e hP.toHasTow ok hr hl n]
  rfl
def tl : List Stm := fn__law_right.body.drop 5
def cntD (F : Sea) (rs : List Nat) : PyData := .list ((List.range F.n).map fun j => .int (rs.count j : Nat))
theorem cnt_d (T : Hs) (n : Nat) (rs : List Nat) : toD (n + 1) T (.lst (cntL F rs)) = some (cntD F rs) := toD_sq (b := false) (mapO_to fun j _ => toD_int n _)
theorem cnt_w (ok : F.Ok) {rs : List Nat} (h : rs.length ≤ 64) : wgt (cntD F rs) ≤ 65 := by
  have key : ∀ l : List Nat, wgt.wgts (l.map fun j => PyData.int (rs.count j : Nat)) = l.length := by
    intro l
    induction l with
    | nil => rfl
    | cons j l ih =>
      have c := List.count_le_length (a := j) (l := rs)
      show (if ((rs.count j : Nat) : Int).natAbs < 10 ^ 30 then 1 else 1000000) + wgt.wgts _ = _
      rw [if_pos (Nat.lt_of_le_of_lt (show _ ≤ 64 by omega) (by decide)), ih, List.length_cons, Nat.add_comm]
  show 1 + wgt.wgts _ ≤ 65
  rw [key, List.length_range]
  have := ok.few
  omega
theorem tail_ok (hP : Has P) (n : Nat) (ok : F.Ok) (st : Stand F f) {rs : List Nat} (hr : ∀ r ∈ rs, r < F.n) (hl : rs.length ≤ 64) (hb : ∀ i, i < F.n → (rowS F f rs i).natAbs < 10 ^ 30) (hf : ∀ i, i < F.n → (f i).natAbs < 10 ^ 30) (hk : k < s.length) (bx : Bx) (ex : Hs) (o4 o7 o8 o9 o10 : Option VV) :
    ∃ (bx' : Bx) (g : Hs), exs (callF P (n + 8)) tl [some (.ref k), some (seaV true F), some (mkV true F.n f), some (seaV false F), o4, some (.lst (rsV rs)), some (mkV true F.n (rowS F f rs)), o7, o8, o9, o10, none, none] (St s k bx ex) =
      .ok (.rt (.bl true)) (St s k bx' g) := by
  have few := ok.few
  have q1 : ∀ S, callF P (n + 8) true "rowed" [seaV true F, mkV true F.n f, .lst (rsV rs)] S = .ok (mkV true F.n (rowS F f rs)) S := fun S => rowed_ok (d := false) hP.toHasTow ok st hr (n + 1)
  have q2 : ∀ S, callF P (n + 8) true "rowed" [seaV false F, .lst (mks F.n f), .tup (rsV rs)] S = .ok (mkV true F.n (rowS F f rs)) S := fun S => rowed_ok (c := false) (d := true) hP.toHasTow ok st hr (n + 1)
  have q3 : ∀ S, callF P (n + 8) false "rowed" [seaV true F, .lst (mks F.n f), .lst []] S = .ok (mkV true F.n f) S := fun S => rowed_ok (c := false) (d := false) (rs := []) hP.toHasTow ok st (by simp) (n + 1)
  have kl : ∀ S, mkL false (mks F.n f) S = .ok (.lst (mks F.n f)) S := fun S => mkL_f (sz_of (by simp; omega))
  have k3 : ∀ S, biV false .list [mkV true F.n f] S = .ok (.lst (mks F.n f)) S := fun S => by
    show biV false .list [sq true (mks F.n f)] S = _
    rw [q_list]
    exact kl S
  have kt : ∀ S, mkT (rsV rs) S = .ok (.tup (rsV rs)) S := fun S => mkT_k (sz_of (by simp; omega))
  have k4 : ∀ S, biV false .tuple [.lst (rsV rs)] S = .ok (.tup (rsV rs)) S := fun S => by
    rw [r_tupl]
    exact kt S
  have pk : [2, 1, 0].filterMap (fun i => [VV.tup (rsV rs), .lst (mks F.n f), seaV false F][i]?) = [seaV false F, .lst (mks F.n f), .tup (rsV rs)] := rfl
  have pk2 : [1, 0].filterMap (fun i => [VV.tup (rsV rs), seaV false F][i]?) = [seaV false F, .tup (rsV rs)] := rfl
  have m2 : ∀ (d : Bool) (v : VV) bx ex, mkL true [v, v] (St s k bx ex) = .ok (.ref (s.length + ex.length)) (St s k bx (ex ++ [.lst [v, v]])) := fun d v bx ex => by
    rw [mkL_t (sz_of (by show 2 ≤ _; omega)), St.len, St.app]
  have f2 : ∀ (v : VV) S, mkL false [v, v] S = .ok (.lst [v, v]) S := fun v S => mkL_f (sz_of (by show 2 ≤ _; omega))
  have md := fun T => toD_marks (s := T) 10 true F.n (rowS F f rs)
  have w := marks_w ok hb
  have s1 : ∀ bx, callF P (n + 8) false "_law_same" [.ref (s.length + ex.length), .lst [mkV true F.n (rowS F f rs), mkV true F.n (rowS F f rs)]] (St s k bx (ex ++ [Ob.lst [mkV true F.n (rowS F f rs), mkV true F.n (rowS F f rs)]])) = .ok (.bl true) (St s k bx (ex ++ [Ob.lst [mkV true F.n (rowS F f rs), mkV true F.n (rowS F f rs)]])) := fun bx => by
    refine same_ok hP.same (n + 7) (toD_ref St.kidL (mapO_cons (md _) (mapO_cons (md _) mapO_nil))) (toD_sq (b := false) (mapO_cons (md _) (mapO_cons (md _) mapO_nil))) ?_
    show 1 + (wgt (.tuple ((List.range F.n).map fun i => .int (rowS F f rs i))) + (wgt (.tuple ((List.range F.n).map fun i => .int (rowS F f rs i))) + 0)) ≤ 400000
    omega
  -- counted
  have sv : ∀ S, seqOf S (seaV true F) = some [.int F.n, sq true (F.ropes.map (ropeV true))] := fun S => q_seq
  have rg := fun T => rng_nat (s := T) (rngs ok.few)
  have inz : ∀ S, seqInts S (.lst (rsV rs)) = some (rs.map fun (r : Nat) => (r : Int)) := fun S => ints_map
  have cty : ∀ S, bmTy .count (.lst (rsV rs)) S = some () := fun S => rfl
  have cnt1 : ∀ j : Nat, (rs.map fun (r : Nat) => (r : Int)).count (j : Int) = rs.count j := fun j => by
    rw [List.count, List.countP_map, List.count]
    refine List.countP_congr fun x _ => ?_
    simp only [Function.comp, beq_iff_eq]
    omega
  have c1 : ∀ S o8 o10, compL [] (stepC (callF P (n + 8)) (.bm .count (.var 5) [(.var 7)]) (.var 7) [] [7] [some (.ref k), some (seaV true F), some (mkV true F.n f), some (seaV false F), o4, some (.lst (rsV rs)), some (mkV true F.n (rowS F f rs)), o7, o8, o9, o10, none, none])
      ((List.range F.n).map fun (j : Nat) => VV.int j) S = .ok (cntL F rs) S := fun S o8 o10 => compL_map rfl fun j _ => by
    simp only [stepC, r_bind, r_assoc, r_lift, r_noX, r_var, r_lit, r_vvn, r_vvb, r_vvi, r_vvs, r_bin, r_neg, r_no, r_conj, r_disj, r_cmp, r_chain, r_ite, r_tup, r_lst, r_idx, r_sl, r_call, r_callk, r_bi, r_bm, r_comp, r_nil, r_cons, r_and1, r_and, r_or1, r_or, r_c0, r_c1, r_range, r_zip, r_enum, r_pl, r_s0, r_s, r_tnx, r_trt, r_tbk, r_tct, r_txc, r_cat, r_asg, r_sub, r_aug, r_expr, r_ret, r_ife, r_for, r_asgv, r_asgt, r_asgl, r_asg0, r_asgc, r_mapS, r_get0, r_gets, r_set0, r_sets, r_wip0, r_wip, r_trb, r_tri, r_ii, r_add, r_subi, r_gIdx, r_dcomp, r_scomp, r_sqt, r_sql, r_sqr, r_gCmp, r_lt, r_gt, r_le, r_ge, r_eqi, r_nei, r_isN, r_isI, r_inN, r_inI, r_neg', r_at0, r_at1, r_at2, r_ort, r_onx, r_lenl, r_lent, r_lenr, r_abs, r_intb, r_inti, r_max2, r_min2, r_tupt, r_tupl, r_tupr, r_listt, r_listl, r_listr, r_p6, r_p9, r_p11, r_p18, r_mkT0, r_mkF0, r_mkM0, r_mkT1, r_mkF1, r_mkM1, r_mkT2, r_mkF2, r_mkM2, r_mkT3, r_mkF3, r_mkM3, r_mkT4, r_mkF4, r_mkM4, r_mkT5, r_mkF5, r_mkM5, r_fld, r_gfld, r_isx, r_isxE, r_isxN, r_bcnt, r_catX, r_rai, r_tryk, r_tryN, r_tryR, r_tryX, r_oxc, r_bindX, sq_t, sq_f, q_seq, q_src, q_len, q_tup, q_list, q_asg, q_pur, q_srt, q_srl, optV_n, optV_s, r_isiI, r_isiT, r_isiL, isTy_ii, isTy_ib, isTy_il, isTy_it, isTy_tt, isTy_tl, isTy_ll, any_n, any_c, r_eqs, r_nes, r_repr, r_addT, cty, inz, cnt1, if_true]
  have k5 : ∀ S, mkL false (cntL F rs) S = .ok (.lst (cntL F rs)) S := fun S => mkL_f (sz_of (by simp; omega))
  have hl2 : rs.length ≤ szL := sz_of (by omega)
  have sk : ∀ bx ex, callF P (n + 8) true "strokes_of" [seaV true F, .lst (rsV rs)] (St s k bx ex) = .ok (.ref (s.length + ex.length)) (St s k bx (ex ++ [.lst (cntL F rs)])) := fun bx ex => by
    have := strokes_k (T := St s k bx ex) (b := true) (d := false) hP ok hr hl2 (n + 3)
    rw [St.len, St.app] at this
    exact this
  have ty : ∀ bx ex, bmTy .append (.ref (s.length + ex.length)) (St s k bx (ex ++ [.lst (cntL F rs)])) = some () := fun bx ex => bm_ty St.kidL
  have ap : ∀ bx ex, bmV .append (.ref (s.length + ex.length)) [.str moreS] (St s k bx (ex ++ [.lst (cntL F rs)])) = .ok .non (St s k bx (ex ++ [Ob.lst (cntL F rs ++ [.str moreS])])) := fun bx ex => by
    have := bm_app (s := St s k bx (ex ++ [.lst (cntL F rs)])) (x := .str moreS) St.kidL (by rw [List.length_map, List.length_range]; unfold szL; omega)
    rw [St.setL] at this
    exact this
  unfold moreS at ap
  have t1 : ∀ S, callF P (n + 8) false "strokes_of" [seaV true F, .lst (rsV rs)] S = .ok (.lst (cntL F rs)) S := fun S => strokes_ok (d := false) hP.strokes hP.toHasTow ok hr hl2 (n + 3)
  have t2 : ∀ S, callF P (n + 8) false "strokes_of" [seaV false F, .tup (rsV rs)] S = .ok (.lst (cntL F rs)) S := fun S => strokes_ok (d := true) hP.strokes hP.toHasTow ok hr hl2 (n + 3)
  have s2 : ∀ S, callF P (n + 8) false "_law_same" [.lst [.lst (cntL F rs), .lst (cntL F rs)], .lst [.lst (cntL F rs), .lst (cntL F rs)]] S = .ok (.bl true) S := fun S => by
    have cd := cnt_d (F := F) S 10 rs
    have := cnt_w (F := F) ok hl
    refine same_ok hP.same (n + 7) (toD_sq (b := false) (mapO_cons cd (mapO_cons cd mapO_nil))) (toD_sq (b := false) (mapO_cons cd (mapO_cons cd mapO_nil))) ?_
    show 1 + (wgt (cntD F rs) + (wgt (cntD F rs) + 0)) ≤ 400000
    omega
  have s3 : ∀ S, callF P (n + 8) false "_law_same" [mkV true F.n f, mkV true F.n f] S = .ok (.bl true) S := fun S => by
    have fd := toD_marks (s := S) 11 true F.n f
    have := marks_w ok hf
    exact same_ok hP.same (n + 7) fd fd (Nat.le_trans this (by decide))
  -- a boat that isn't there
  have m9 : arith .pow 10 9 = some 1000000000 := by decide
  obtain ⟨v, b2, hv, e1⟩ := of_ok (s := s) (k := k) (b := bx) (ex := ex ++ [Ob.lst [mkV true F.n (rowS F f rs), mkV true F.n (rowS F f rs)]] ++ [Ob.lst (cntL F rs ++ [.str { cps := #[109, 111, 114, 101] }])]) hP.toHasBox (n + 6) false hk
    [.int (-1), .int F.n, .int (F.n + 5), .int 1000000000] (by simp) (by simp) (by simp [pur])
  obtain ⟨i, rfl, hi, hw⟩ : ∃ i : Int, v = .int i ∧ NoB F i ∧ i.natAbs < 10 ^ 30 := by
    simp only [List.mem_cons, List.not_mem_nil, or_false] at hv
    rcases hv with rfl | rfl | rfl | rfl
    · exact ⟨_, rfl, .inl (by decide), by decide⟩
    · exact ⟨_, rfl, .inr (by omega), Nat.lt_of_le_of_lt (show _ ≤ 1000 by omega) (by decide)⟩
    · exact ⟨_, rfl, .inr (by omega), Nat.lt_of_le_of_lt (show _ ≤ 1000 by omega) (by decide)⟩
    · exact ⟨_, rfl, .inr (by omega), by decide⟩
  have p0 := ok.pos
  have c2 : ∀ S o8 o10, compL [] (stepC (callF P (n + 8)) (.call true "_law_refused" [(.var 12), (.var 1), (.var 2), (.var 11)]) (.var 12) [] [12] [some (.ref k), some (seaV true F), some (mkV true F.n f), some (seaV false F), o4, some (.lst (rsV rs)), some (mkV true F.n (rowS F f rs)), o7, o8, o9, o10, some (.int i), none])
      ((List.range 4).map fun (j : Nat) => VV.int j) S = .ok ((List.range 4).map fun _ => VV.int i) S := fun S o8 o10 => compL_map rfl fun j hj => by
    have e := refused_ok (s := S) (b := true) (c := true) (k := true) hP.refused hP.strokes hP.toHasTow ok st p0 n hi (List.mem_range.mp hj)
    simp only [stepC, r_bind, r_assoc, r_lift, r_noX, r_var, r_lit, r_vvn, r_vvb, r_vvi, r_vvs, r_bin, r_neg, r_no, r_conj, r_disj, r_cmp, r_chain, r_ite, r_tup, r_lst, r_idx, r_sl, r_call, r_callk, r_bi, r_bm, r_comp, r_nil, r_cons, r_and1, r_and, r_or1, r_or, r_c0, r_c1, r_range, r_zip, r_enum, r_pl, r_s0, r_s, r_tnx, r_trt, r_tbk, r_tct, r_txc, r_cat, r_asg, r_sub, r_aug, r_expr, r_ret, r_ife, r_for, r_asgv, r_asgt, r_asgl, r_asg0, r_asgc, r_mapS, r_get0, r_gets, r_set0, r_sets, r_wip0, r_wip, r_trb, r_tri, r_ii, r_add, r_subi, r_gIdx, r_dcomp, r_scomp, r_sqt, r_sql, r_sqr, r_gCmp, r_lt, r_gt, r_le, r_ge, r_eqi, r_nei, r_isN, r_isI, r_inN, r_inI, r_neg', r_at0, r_at1, r_at2, r_ort, r_onx, r_lenl, r_lent, r_lenr, r_abs, r_intb, r_inti, r_max2, r_min2, r_tupt, r_tupl, r_tupr, r_listt, r_listl, r_listr, r_p6, r_p9, r_p11, r_p18, r_mkT0, r_mkF0, r_mkM0, r_mkT1, r_mkF1, r_mkM1, r_mkT2, r_mkF2, r_mkM2, r_mkT3, r_mkF3, r_mkM3, r_mkT4, r_mkF4, r_mkM4, r_mkT5, r_mkF5, r_mkM5, r_fld, r_gfld, r_isx, r_isxE, r_isxN, r_bcnt, r_catX, r_rai, r_tryk, r_tryN, r_tryR, r_tryX, r_oxc, r_bindX, sq_t, sq_f, q_seq, q_src, q_len, q_tup, q_list, q_asg, q_pur, q_srt, q_srl, optV_n, optV_s, r_isiI, r_isiT, r_isiL, isTy_ii, isTy_ib, isTy_il, isTy_it, isTy_tt, isTy_tl, isTy_ll, any_n, any_c, r_eqs, r_nes, r_repr, r_addT, e, if_true]
  have rg4 := fun T => rng_nat (s := T) (n := 4) (by decide)
  rw [show ((4 : Nat) : Int) = 4 from rfl] at rg4
  refine ⟨b2, ex ++ [Ob.lst [mkV true F.n (rowS F f rs), mkV true F.n (rowS F f rs)]] ++ [Ob.lst (cntL F rs ++ [.str { cps := #[109, 111, 114, 101] }])] ++ [.lst ((List.range 4).map fun _ => VV.int i)], ?_⟩
  have m4 : mkL true ((List.range 4).map fun _ => VV.int i) (St s k b2 (ex ++ [Ob.lst [mkV true F.n (rowS F f rs), mkV true F.n (rowS F f rs)]] ++ [Ob.lst (cntL F rs ++ [.str { cps := #[109, 111, 114, 101] }])])) = .ok (.ref (s.length + (ex ++ [Ob.lst [mkV true F.n (rowS F f rs), mkV true F.n (rowS F f rs)]] ++ [Ob.lst (cntL F rs ++ [.str { cps := #[109, 111, 114, 101] }])]).length)) (St s k b2 (ex ++ [Ob.lst [mkV true F.n (rowS F f rs), mkV true F.n (rowS F f rs)]] ++ [Ob.lst (cntL F rs ++ [.str { cps := #[109, 111, 114, 101] }])] ++ [.lst ((List.range 4).map fun _ => VV.int i)])) := by
    rw [mkL_t (sz_of (by simp)), St.len, St.app]
  have mu : ∀ S, binG false .mul (.lst [.int i]) (.int 4) S = .ok (.lst [.int i, .int i, .int i, .int i]) S := fun S => by
    show mkL false (List.replicate 4 [VV.int i]).flatten S = _
    exact mkL_f (sz_of (by show 4 ≤ _; omega))
  have s4 : ∀ (a : Nat) (S : Hs), kid S a = some ((List.range 4).map fun _ => VV.int i) → callF P (n + 8) false "_law_same" [.ref a, .lst [.int i, .int i, .int i, .int i]] S = .ok (.bl true) S := fun a S ka => by
    refine same_ok (d := .list [.int i, .int i, .int i, .int i]) hP.same (n + 7) (toD_ref ka (mapO_cons (toD_int _ _) (mapO_cons (toD_int _ _) (mapO_cons (toD_int _ _) (mapO_cons (toD_int _ _) mapO_nil))))) (toD_sq (b := false) (mapO_cons (toD_int _ _) (mapO_cons (toD_int _ _) (mapO_cons (toD_int _ _) (mapO_cons (toD_int _ _) mapO_nil))))) ?_
    show 1 + (wgt (.int i) + (wgt (.int i) + (wgt (.int i) + (wgt (.int i) + 0)))) ≤ 400000
    rw [wgt_int hw]
    omega
  have li : ∀ S, callF P (n + 8) false "_law_listed" [seaV true F] S = .ok (seaV false F) S := fun S => listed_sea hP.listed ok (n + 4)
  have eqL : ∀ S, cmpV S .eq (seaV false F) (seaV false F) = some true := fun S => eq_data (toD_sea 9 false F) (toD_sea 9 false F) (by intro z h; cases h)
  have l1 : ∀ S, mkL false [VV.int (-1), .int F.n, .int (F.n + 5), .int 1000000000] S = .ok (.lst [VV.int (-1), .int F.n, .int (F.n + 5), .int 1000000000]) S := fun S => mkL_f (sz_of (by show 4 ≤ _; omega))
  simp only [tl, fn__law_right, List.drop, r_bind, r_assoc, r_lift, r_noX, r_var, r_lit, r_vvn, r_vvb, r_vvi, r_vvs, r_bin, r_neg, r_no, r_conj, r_disj, r_cmp, r_chain, r_ite, r_tup, r_lst, r_idx, r_sl, r_call, r_callk, r_bi, r_bm, r_comp, r_nil, r_cons, r_and1, r_and, r_or1, r_or, r_c0, r_c1, r_range, r_zip, r_enum, r_pl, r_s0, r_s, r_tnx, r_trt, r_tbk, r_tct, r_txc, r_cat, r_asg, r_sub, r_aug, r_expr, r_ret, r_ife, r_for, r_asgv, r_asgt, r_asgl, r_asg0, r_asgc, r_mapS, r_get0, r_gets, r_set0, r_sets, r_wip0, r_wip, r_trb, r_tri, r_ii, r_add, r_subi, r_gIdx, r_dcomp, r_scomp, r_sqt, r_sql, r_sqr, r_gCmp, r_lt, r_gt, r_le, r_ge, r_eqi, r_nei, r_isN, r_isI, r_inN, r_inI, r_neg', r_at0, r_at1, r_at2, r_ort, r_onx, r_lenl, r_lent, r_lenr, r_abs, r_intb, r_inti, r_max2, r_min2, r_tupt, r_tupl, r_tupr, r_listt, r_listl, r_listr, r_p6, r_p9, r_p11, r_p18, r_mkT0, r_mkF0, r_mkM0, r_mkT1, r_mkF1, r_mkM1, r_mkT2, r_mkF2, r_mkM2, r_mkT3, r_mkF3, r_mkM3, r_mkT4, r_mkF4, r_mkM4, r_mkT5, r_mkF5, r_mkM5, r_fld, r_gfld, r_isx, r_isxE, r_isxN, r_bcnt, r_catX, r_rai, r_tryk, r_tryN, r_tryR, r_tryX, r_oxc, r_bindX, sq_t, sq_f, q_seq, q_src, q_len, q_tup, q_list, q_asg, q_pur, q_srt, q_srl, optV_n, optV_s, r_isiI, r_isiT, r_isiL, isTy_ii, isTy_ib, isTy_il, isTy_it, isTy_tt, isTy_tl, isTy_ll, any_n, any_c, r_eqs, r_nes, r_repr, r_addT, q1, k3, k4, pk, q2, m2 true, f2, s1, Bool.not_true, if_false, Bool.false_eq_true, sv, rg, c1, k5, sk, ty, ap, t1, pk2, t2, s2, q3, s3, e1, rg4, c2, m4, mu, s4 _ _ St.kidL, li, eqL, if_true]
end
theorem right_ok (hP : Has P) (n : Nat) : Right P (n + 9) := by
  intro s k bx hk
  obtain ⟨F, b1, ok, hn, hw, e1⟩ := river_ok (b := bx) (ex := []) hP.toHasBox hP.river (n + 5) false hk 8 ⟨by decide, by decide⟩ 3 (by decide)
  rw [show ((8 : Nat) : Int) = 8 from rfl] at e1
  obtain ⟨f, b2, st, hf, e2⟩ := lies_ok (bx := b1) (ex := []) (b := true) hP.toHasLies ok (n + 4) hk 4 (by decide)
  obtain ⟨m0, b3, q0, q1, e3⟩ := draw_ok (b := b2) (ex := []) hP.toHasBox (n + 7) false hk 31 ⟨by decide, by decide⟩
  obtain ⟨m, rfl⟩ := Int.eq_ofNat_of_zero_le q0
  have few := ok.few
  have p0 := ok.pos
  have sv : ∀ S, seqOf S (seaV true F) = some [.int F.n, sq true (F.ropes.map (ropeV true))] := fun S => q_seq
  obtain ⟨g, b4, hg, e4⟩ := draws (n := m) (s := s) (ex := []) (k := k) (step := stepC (callF P (n + 8)) (.call false "_law_take" [(.var 0), (.idx (.var 1) (.lit (.int 0)))]) (.var 4) [] [4] [some (.ref k), some (seaV true F), some (mkV true F.n f), some (seaV false F), none, none, none, none, none, none, none, none, none])
    (φ := fun _ r => 0 ≤ r ∧ r < F.n) (fun i b hi => by
      obtain ⟨r, b', r1, r2, e⟩ := draw_ok (b := b) (ex := []) hP.toHasBox (n + 7) false hk F.n ⟨by omega, by omega⟩
      refine ⟨r, b', ⟨r1, r2⟩, ?_⟩
      simp only [stepC, r_bind, r_assoc, r_lift, r_noX, r_var, r_lit, r_vvn, r_vvb, r_vvi, r_vvs, r_bin, r_neg, r_no, r_conj, r_disj, r_cmp, r_chain, r_ite, r_tup, r_lst, r_idx, r_sl, r_call, r_callk, r_bi, r_bm, r_comp, r_nil, r_cons, r_and1, r_and, r_or1, r_or, r_c0, r_c1, r_range, r_zip, r_enum, r_pl, r_s0, r_s, r_tnx, r_trt, r_tbk, r_tct, r_txc, r_cat, r_asg, r_sub, r_aug, r_expr, r_ret, r_ife, r_for, r_asgv, r_asgt, r_asgl, r_asg0, r_asgc, r_mapS, r_get0, r_gets, r_set0, r_sets, r_wip0, r_wip, r_trb, r_tri, r_ii, r_add, r_subi, r_gIdx, r_dcomp, r_scomp, r_sqt, r_sql, r_sqr, r_gCmp, r_lt, r_gt, r_le, r_ge, r_eqi, r_nei, r_isN, r_isI, r_inN, r_inI, r_neg', r_at0, r_at1, r_at2, r_ort, r_onx, r_lenl, r_lent, r_lenr, r_abs, r_intb, r_inti, r_max2, r_min2, r_tupt, r_tupl, r_tupr, r_listt, r_listl, r_listr, r_p6, r_p9, r_p11, r_p18, r_mkT0, r_mkF0, r_mkM0, r_mkT1, r_mkF1, r_mkM1, r_mkT2, r_mkF2, r_mkM2, r_mkT3, r_mkF3, r_mkM3, r_mkT4, r_mkF4, r_mkM4, r_mkT5, r_mkF5, r_mkM5, r_fld, r_gfld, r_isx, r_isxE, r_isxN, r_bcnt, r_catX, r_rai, r_tryk, r_tryN, r_tryR, r_tryX, r_oxc, r_bindX, sq_t, sq_f, q_seq, q_src, q_len, q_tup, q_list, q_asg, q_pur, q_srt, q_srl, optV_n, optV_s, r_isiI, r_isiT, r_isiL, isTy_ii, isTy_ib, isTy_il, isTy_it, isTy_tt, isTy_tl, isTy_ll, any_n, any_c, r_eqs, r_nes, r_repr, r_addT, sv, e, if_true]) b3
  have hv : mks m g = rsV ((List.range m).map fun i => (g i).toNat) := by
    unfold mks rsV
    rw [List.map_map]
    apply List.map_congr_left
    intro i hi
    have h : 0 ≤ g i ∧ g i < F.n := hg i (List.mem_range.mp hi)
    show VV.int (g i) = VV.int ((g i).toNat : Nat)
    congr 1
    omega
  generalize hrs : (List.range m).map (fun i => (g i).toNat) = rs at hv
  have hr : ∀ r ∈ rs, r < F.n := fun r h => by
    rw [← hrs] at h
    obtain ⟨i, hi, rfl⟩ := List.mem_map.mp h
    have h : 0 ≤ g i ∧ g i < F.n := hg i (List.mem_range.mp hi)
    omega
  have lr : rs.length ≤ 64 := by
    rw [← hrs, List.length_map, List.length_range]
    omega
  rw [hv] at e4
  obtain ⟨o7, o8, o9, o10, ex, e5⟩ := turns_ok (s := s) (k := k) hP n ok st hr hf lr b4 none
  have bd := rowS_bd (B := 0) (F := F) rs f 4 hf
  have big : ∀ z : Int, 0 ≤ z → z ≤ 1000 → z.natAbs < 10 ^ 30 := fun z a b => Nat.lt_of_le_of_lt (show _ ≤ 1000 by omega) (by decide)
  obtain ⟨b5, G, e6⟩ := tail_ok hP n ok st hr lr (fun i hi => big _ (bd i hi).1 (by have := (bd i hi).2; omega)) (fun i hi => big _ (hf i hi).1 (by have := (hf i hi).2; omega)) hk b4 ex none o7 o8 o9 o10
  refine ⟨b5, ?_⟩
  rw [callF_run hP.right rfl]
  have li : ∀ S, callF P (n + 8) false "_law_listed" [seaV true F] S = .ok (seaV false F) S := fun S => listed_sea hP.listed ok (n + 4)
  have rg : ∀ T, gRange [.int (m : Int)] T = .ok ((List.range m).map fun (i : Nat) => VV.int i, []) T := fun T => rng_nat (by omega)
  have sz : mkL false (rsV rs) (St s k b4 []) = .ok (.lst (rsV rs)) (St s k b4 []) := mkL_f (sz_of (by simp; omega))
  have body : fn__law_right.body = fn__law_right.body.take 4 ++ (.forr (.var 7) (.pl (.var 5)) turnS :: tl) := rfl
  rw [body, exs_app]
  simp only [fn__law_right, List.take, r_bind, r_assoc, r_lift, r_noX, r_var, r_lit, r_vvn, r_vvb, r_vvi, r_vvs, r_bin, r_neg, r_no, r_conj, r_disj, r_cmp, r_chain, r_ite, r_tup, r_lst, r_idx, r_sl, r_call, r_callk, r_bi, r_bm, r_comp, r_nil, r_cons, r_and1, r_and, r_or1, r_or, r_c0, r_c1, r_range, r_zip, r_enum, r_pl, r_s0, r_s, r_tnx, r_trt, r_tbk, r_tct, r_txc, r_cat, r_asg, r_sub, r_aug, r_expr, r_ret, r_ife, r_for, r_asgv, r_asgt, r_asgl, r_asg0, r_asgc, r_mapS, r_get0, r_gets, r_set0, r_sets, r_wip0, r_wip, r_trb, r_tri, r_ii, r_add, r_subi, r_gIdx, r_dcomp, r_scomp, r_sqt, r_sql, r_sqr, r_gCmp, r_lt, r_gt, r_le, r_ge, r_eqi, r_nei, r_isN, r_isI, r_inN, r_inI, r_neg', r_at0, r_at1, r_at2, r_ort, r_onx, r_lenl, r_lent, r_lenr, r_abs, r_intb, r_inti, r_max2, r_min2, r_tupt, r_tupl, r_tupr, r_listt, r_listl, r_listr, r_p6, r_p9, r_p11, r_p18, r_mkT0, r_mkF0, r_mkM0, r_mkT1, r_mkF1, r_mkM1, r_mkT2, r_mkF2, r_mkM2, r_mkT3, r_mkF3, r_mkM3, r_mkT4, r_mkF4, r_mkM4, r_mkT5, r_mkF5, r_mkM5, r_fld, r_gfld, r_isx, r_isxE, r_isxN, r_bcnt, r_catX, r_rai, r_tryk, r_tryN, r_tryR, r_tryX, r_oxc, r_bindX, sq_t, sq_f, q_seq, q_src, q_len, q_tup, q_list, q_asg, q_pur, q_srt, q_srl, optV_n, optV_s, r_isiI, r_isiT, r_isiL, isTy_ii, isTy_ib, isTy_il, isTy_it, isTy_tt, isTy_tl, isTy_ll, any_n, any_c, r_eqs, r_nes, r_repr, r_addT, List.map_cons, List.map_nil, List.replicate, List.cons_append, List.nil_append, Nat.reduceSub, e1, e2, li, e3, rg, e4, sz]
  rw [e5]
  simp only [r_bind, r_assoc, r_lift, r_noX, r_var, r_lit, r_vvn, r_vvb, r_vvi, r_vvs, r_bin, r_neg, r_no, r_conj, r_disj, r_cmp, r_chain, r_ite, r_tup, r_lst, r_idx, r_sl, r_call, r_callk, r_bi, r_bm, r_comp, r_nil, r_cons, r_and1, r_and, r_or1, r_or, r_c0, r_c1, r_range, r_zip, r_enum, r_pl, r_s0, r_s, r_tnx, r_trt, r_tbk, r_tct, r_txc, r_cat, r_asg, r_sub, r_aug, r_expr, r_ret, r_ife, r_for, r_asgv, r_asgt, r_asgl, r_asg0, r_asgc, r_mapS, r_get0, r_gets, r_set0, r_sets, r_wip0, r_wip, r_trb, r_tri, r_ii, r_add, r_subi, r_gIdx, r_dcomp, r_scomp, r_sqt, r_sql, r_sqr, r_gCmp, r_lt, r_gt, r_le, r_ge, r_eqi, r_nei, r_isN, r_isI, r_inN, r_inI, r_neg', r_at0, r_at1, r_at2, r_ort, r_onx, r_lenl, r_lent, r_lenr, r_abs, r_intb, r_inti, r_max2, r_min2, r_tupt, r_tupl, r_tupr, r_listt, r_listl, r_listr, r_p6, r_p9, r_p11, r_p18, r_mkT0, r_mkF0, r_mkM0, r_mkT1, r_mkF1, r_mkM1, r_mkT2, r_mkF2, r_mkM2, r_mkT3, r_mkF3, r_mkM3, r_mkT4, r_mkF4, r_mkM4, r_mkT5, r_mkF5, r_mkM5, r_fld, r_gfld, r_isx, r_isxE, r_isxN, r_bcnt, r_catX, r_rai, r_tryk, r_tryN, r_tryR, r_tryX, r_oxc, r_bindX, sq_t, sq_f, q_seq, q_src, q_len, q_tup, q_list, q_asg, q_pur, q_srt, q_srl, optV_n, optV_s, r_isiI, r_isiT, r_isiL, isTy_ii, isTy_ib, isTy_il, isTy_it, isTy_tt, isTy_tl, isTy_ll, any_n, any_c, r_eqs, r_nes, r_repr, r_addT]
  rw [e6]
  exact fin_boxes (ex := []) hk rfl G
theorem law_ok (hP : Has P) (n : Nat) (zs : List Int) (hz : zs.length ≤ 63) : ∃ S, callF P (n + 10) false "law" [.scr (zs.map .int)] [] = .ok (.bl true) S :=
  lawT_ok (u := 3) (t := 3) hP.cells hP.box hP.law ⟨by decide, by decide⟩ (by decide) (right_ok hP n) zs hz
end
end Tw.K04
set_option Elab.async false
set_option linter.all false
set_option maxRecDepth 100000
set_option maxHeartbeats 0
namespace K04
open PySem PySem.Spec PyProof.Rows Tw L2
def top (i : Nat) : Stmt := PySem.Challenge.pw_towlines_k04_strokes_and_whom_they_tow.main.body.getD i (.Pass ⟨0, 0, 0, 0⟩)
def d_is_number : He.DefD := ⟨("is_number", none), "is_number", "is_number", defArgs (top 5), defBody (top 5), defScope (top 5), [], []⟩
def f_is_number : Df := ⟨d_is_number, ⟨"is_number", "is_number", ["thing"], false, [0]⟩, ["thing"], [], 0⟩
def d_is_count : He.DefD := ⟨("is_count", none), "is_count", "is_count", defArgs (top 6), defBody (top 6), defScope (top 6), [], []⟩
def f_is_count : Df := ⟨d_is_count, ⟨"is_count", "is_count", ["thing"], false, [0]⟩, ["thing"], [], 0⟩
def d_is_boat : He.DefD := ⟨("is_boat", none), "is_boat", "is_boat", defArgs (top 7), defBody (top 7), defScope (top 7), [], []⟩
def f_is_boat : Df := ⟨d_is_boat, ⟨"is_boat", "is_boat", ["many", "thing"], false, [0, 0]⟩, ["many", "thing"], [], 0⟩
def d_look_boat : He.DefD := ⟨("look_boat", none), "look_boat", "look_boat", defArgs (top 9), defBody (top 9), defScope (top 9), [], []⟩
def f_look_boat : Df := ⟨d_look_boat, ⟨"look_boat", "look_boat", ["fleet", "boat"], false, [0, 0]⟩, ["fleet", "boat"], [], 0⟩
def d_towed : He.DefD := ⟨("towed", none), "towed", "towed", defArgs (top 10), defBody (top 10), defScope (top 10), [], []⟩
def f_towed : Df := ⟨d_towed, ⟨"towed", "towed", ["fleet", "standing", "boat"], false, [0, 0, 0]⟩, ["fleet", "standing", "boat", "found", "fresh", "line", "taut"], [("found", 1)], 1⟩
def d_stroked : He.DefD := ⟨("stroked", none), "stroked", "stroked", defArgs (top 11), defBody (top 11), defScope (top 11), [], []⟩
def f_stroked : Df := ⟨d_stroked, ⟨"stroked", "stroked", ["fleet", "standing", "boat"], false, [0, 0, 0]⟩, ["fleet", "standing", "boat", "going", "place", "mark"], [], 1⟩
def d_rowed : He.DefD := ⟨("rowed", none), "rowed", "rowed", defArgs (top 12), defBody (top 12), defScope (top 12), [], []⟩
def f_rowed : Df := ⟨d_rowed, ⟨"rowed", "rowed", ["fleet", "standing", "row"], false, [0, 0, 0]⟩, ["fleet", "standing", "row", "here", "boat"], [("here", 1)], 1⟩
def d_strokes_of : He.DefD := ⟨("strokes_of", none), "strokes_of", "strokes_of", defArgs (top 13), defBody (top 13), defScope (top 13), [], []⟩
def f_strokes_of : Df := ⟨d_strokes_of, ⟨"strokes_of", "strokes_of", ["fleet", "row"], false, [0, 0]⟩, ["fleet", "row", "boat", "one"], [], 1⟩
def d__law_box : He.DefD := ⟨("_law_box", none), "_law_box", "_law_box", defArgs (top 15), defBody (top 15), defScope (top 15), [], []⟩
def f__law_box : Df := ⟨d__law_box, ⟨"_law_box", "_law_box", ["_law_cells_here", "_law_k"], false, [0, 0]⟩, ["_law_cells_here", "_law_k", "_law_cell"], [], 1⟩
def d__law_take : He.DefD := ⟨("_law_take", none), "_law_take", "_law_take", defArgs (top 16), defBody (top 16), defScope (top 16), [], []⟩
def f__law_take : Df := ⟨d__law_take, ⟨"_law_take", "_law_take", ["_law_box_here", "_law_below"], false, [1, 0]⟩, ["_law_box_here", "_law_below", "_law_found", "_law_blend"], [("_law_box_here", 1)], 0⟩
def d__law_cells : He.DefD := ⟨("_law_cells", none), "_law_cells", "_law_cells", defArgs (top 17), defBody (top 17), defScope (top 17), [], []⟩
def f__law_cells : Df := ⟨d__law_cells, ⟨"_law_cells", "_law_cells", ["_law_script", "_law_utmost"], false, [0, 0]⟩, ["_law_script", "_law_utmost", "_law_cells_here", "_law_k", "_law_cell"], [("_law_cells_here", 1)], 0⟩
def d__law_of : He.DefD := ⟨("_law_of", none), "_law_of", "_law_of", defArgs (top 18), defBody (top 18), defScope (top 18), [], []⟩
def f__law_of : Df := ⟨d__law_of, ⟨"_law_of", "_law_of", ["_law_box_here", "_law_some"], false, [1, 0]⟩, ["_law_box_here", "_law_some"], [("_law_box_here", 1)], 0⟩
def d__law_same : He.DefD := ⟨("_law_same", none), "_law_same", "_law_same", defArgs (top 19), defBody (top 19), defScope (top 19), [], []⟩
def f__law_same : Df := ⟨d__law_same, ⟨"_law_same", "_law_same", ["_law_found", "_law_due"], false, [0, 0]⟩, ["_law_found", "_law_due"], [], 0⟩
def d__law_listed : He.DefD := ⟨("_law_listed", none), "_law_listed", "_law_listed", defArgs (top 20), defBody (top 20), defScope (top 20), [], []⟩
def f__law_listed : Df := ⟨d__law_listed, ⟨"_law_listed", "_law_listed", ["_law_matter"], false, [0]⟩, ["_law_matter", "_law_part"], [], 0⟩
def d__law_wide : He.DefD := ⟨("_law_wide", none), "_law_wide", "_law_wide", defArgs (top 21), defBody (top 21), defScope (top 21), [], []⟩
def f__law_wide : Df := ⟨d__law_wide, ⟨"_law_wide", "_law_wide", ["_law_box_here", "_law_below"], false, [1, 0]⟩, ["_law_box_here", "_law_below"], [("_law_box_here", 1)], 0⟩
def d__law_river : He.DefD := ⟨("_law_river", none), "_law_river", "_law_river", defArgs (top 22), defBody (top 22), defScope (top 22), [], []⟩
def f__law_river : Df := ⟨d__law_river, ⟨"_law_river", "_law_river", ["_law_box_here", "_law_utmost", "_law_high"], false, [1, 0, 0]⟩, ["_law_box_here", "_law_utmost", "_law_high", "_law_ships", "_law_ropes", "_law_thick", "_law_top", "_law_mine", "_law_its", "_law_ship"], [("_law_box_here", 1), ("_law_ropes", 1)], 0⟩
def d__law_leads : He.DefD := ⟨("_law_leads", none), "_law_leads", "_law_leads", defArgs (top 23), defBody (top 23), defScope (top 23), [], []⟩
def f__law_leads : Df := ⟨d__law_leads, ⟨"_law_leads", "_law_leads", ["_law_river_here"], false, [0]⟩, ["_law_river_here", "_law_ships", "_law_its", "_law_mine", "_law_table", "_law_slack", "_law_mid", "_law_both"], [("_law_table", 2)], 0⟩
def d__law_moor : He.DefD := ⟨("_law_moor", none), "_law_moor", "_law_moor", defArgs (top 24), defBody (top 24), defScope (top 24), [], []⟩
def f__law_moor : Df := ⟨d__law_moor, ⟨"_law_moor", "_law_moor", ["_law_river_here", "_law_spots"], false, [0, 0]⟩, ["_law_river_here", "_law_spots", "_law_table", "_law_found", "_law_its", "_law_mine", "_law_tugs"], [("_law_found", 1)], 0⟩
def d__law_holds : He.DefD := ⟨("_law_holds", none), "_law_holds", "_law_holds", defArgs (top 25), defBody (top 25), defScope (top 25), [], []⟩
def f__law_holds : Df := ⟨d__law_holds, ⟨"_law_holds", "_law_holds", ["_law_river_here", "_law_spots"], false, [0, 0]⟩, ["_law_river_here", "_law_spots", "_law_mine", "_law_its", "_law_slack"], [], 0⟩
def d__law_lies : He.DefD := ⟨("_law_lies", none), "_law_lies", "_law_lies", defArgs (top 26), defBody (top 26), defScope (top 26), [], []⟩
def f__law_lies : Df := ⟨d__law_lies, ⟨"_law_lies", "_law_lies", ["_law_box_here", "_law_river_here", "_law_high"], false, [1, 0, 0]⟩, ["_law_box_here", "_law_river_here", "_law_high", "_law_ship"], [("_law_box_here", 1)], 0⟩
def d__law_going : He.DefD := ⟨("_law_going", none), "_law_going", "_law_going", defArgs (top 27), defBody (top 27), defScope (top 27), [], []⟩
def f__law_going : Df := ⟨d__law_going, ⟨"_law_going", "_law_going", ["_law_river_here", "_law_lies_here", "_law_ship"], false, [0, 0, 0]⟩, ["_law_river_here", "_law_lies_here", "_law_ship", "_law_rope", "_law_taut", "_law_going_here", "_law_size", "_law_mine", "_law_its", "_law_slack"], [("_law_going_here", 1)], 0⟩
def d__law_stroke : He.DefD := ⟨("_law_stroke", none), "_law_stroke", "_law_stroke", defArgs (top 28), defBody (top 28), defScope (top 28), [], []⟩
def f__law_stroke : Df := ⟨d__law_stroke, ⟨"_law_stroke", "_law_stroke", ["_law_river_here", "_law_lies_here", "_law_ship"], false, [0, 0, 0]⟩, ["_law_river_here", "_law_lies_here", "_law_ship", "_law_going_here", "_law_place", "_law_spot"], [], 0⟩
def d__law_refused : He.DefD := ⟨("_law_refused", none), "_law_refused", "_law_refused", defArgs (top 29), defBody (top 29), defScope (top 29), [], []⟩
def f__law_refused : Df := ⟨d__law_refused, ⟨"_law_refused", "_law_refused", ["_law_way", "_law_river_here", "_law_lies_here", "_law_ship"], false, [0, 0, 0, 0]⟩, ["_law_way", "_law_river_here", "_law_lies_here", "_law_ship", "_law_caught", "error"], [], 1⟩
def d__law_right : He.DefD := ⟨("_law_right", none), "_law_right", "_law_right", defArgs (top 30), defBody (top 30), defScope (top 30), [], []⟩
def f__law_right : Df := ⟨d__law_right, ⟨"_law_right", "_law_right", ["_law_box_here"], false, [1]⟩, ["_law_box_here", "_law_river_here", "_law_lies_here", "_law_lists", "_law_turn", "_law_turns", "_law_here", "_law_ship", "_law_due", "_law_later", "_law_heard", "_law_far", "_law_way"], [("_law_box_here", 1), ("_law_heard", 2)], 0⟩
def d_law : He.DefD := ⟨("law", none), "law", "law", defArgs (top 31), defBody (top 31), defScope (top 31), [], []⟩
def f_law : Df := ⟨d_law, ⟨"law", "law", ["_law_script"], false, [0]⟩, ["_law_script", "_law_cells_here", "_law_k", "_law_box_here", "_law_turn"], [("_law_box_here", 1)], 0⟩
def fs : List Df := [f_is_number, f_is_count, f_is_boat, f_look_boat, f_towed, f_stroked, f_rowed, f_strokes_of, f__law_box, f__law_take, f__law_cells, f__law_of, f__law_same, f__law_listed, f__law_wide, f__law_river, f__law_leads, f__law_moor, f__law_holds, f__law_lies, f__law_going, f__law_stroke, f__law_refused, f__law_right, f_law]
def xd_NoBoat : Xd := ⟨"NoBoat", ⟨("NoBoat", some ("__init__" : Str)), "__init__", "NoBoat.__init__", defArgs (clsInit (top 1)), defBody (clsInit (top 1)), defScope (clsInit (top 1)), [], []⟩⟩
def xd_NoLine : Xd := ⟨"NoLine", ⟨("NoLine", some ("__init__" : Str)), "__init__", "NoLine.__init__", defArgs (clsInit (top 2)), defBody (clsInit (top 2)), defScope (clsInit (top 2)), [], []⟩⟩
def xd_Behind : Xd := ⟨"Behind", ⟨("Behind", some ("__init__" : Str)), "__init__", "Behind.__init__", defArgs (clsInit (top 3)), defBody (clsInit (top 3)), defScope (clsInit (top 3)), [], []⟩⟩
def xs : List Xd := [xd_NoBoat, xd_NoLine, xd_Behind]
theorem c_is_number : cSs 300 (f_is_number.cn (fs.map (·.sg)) (xs.map (·.c))) f_is_number.d.body = some Tw.fn_is_number.body := by kernel_rfl
theorem c_is_count : cSs 300 (f_is_count.cn (fs.map (·.sg)) (xs.map (·.c))) f_is_count.d.body = some Tw.fn_is_count.body := by kernel_rfl
theorem c_is_boat : cSs 300 (f_is_boat.cn (fs.map (·.sg)) (xs.map (·.c))) f_is_boat.d.body = some Tw.fn_is_boat.body := by kernel_rfl
theorem c_look_boat : cSs 300 (f_look_boat.cn (fs.map (·.sg)) (xs.map (·.c))) f_look_boat.d.body = some Tw.fn_look_boat.body := by kernel_rfl
theorem c_towed : cSs 300 (f_towed.cn (fs.map (·.sg)) (xs.map (·.c))) f_towed.d.body = some Tw.fn_towed.body := by kernel_rfl
theorem c_stroked : cSs 300 (f_stroked.cn (fs.map (·.sg)) (xs.map (·.c))) f_stroked.d.body = some Tw.fn_stroked.body := by kernel_rfl
theorem c_rowed : cSs 300 (f_rowed.cn (fs.map (·.sg)) (xs.map (·.c))) f_rowed.d.body = some Tw.fn_rowed.body := by kernel_rfl
theorem c_strokes_of : cSs 300 (f_strokes_of.cn (fs.map (·.sg)) (xs.map (·.c))) f_strokes_of.d.body = some Tw.fn_strokes_of.body := by kernel_rfl
theorem c__law_box : cSs 300 (f__law_box.cn (fs.map (·.sg)) (xs.map (·.c))) f__law_box.d.body = some Tw.fn__law_box.body := by kernel_rfl
theorem c__law_take : cSs 300 (f__law_take.cn (fs.map (·.sg)) (xs.map (·.c))) f__law_take.d.body = some Tw.fn__law_take.body := by kernel_rfl
theorem c__law_cells : cSs 300 (f__law_cells.cn (fs.map (·.sg)) (xs.map (·.c))) f__law_cells.d.body = some Tw.fn__law_cells.body := by kernel_rfl
theorem c__law_of : cSs 300 (f__law_of.cn (fs.map (·.sg)) (xs.map (·.c))) f__law_of.d.body = some Tw.fn__law_of.body := by kernel_rfl
theorem c__law_same : cSs 300 (f__law_same.cn (fs.map (·.sg)) (xs.map (·.c))) f__law_same.d.body = some Tw.fn__law_same.body := by kernel_rfl
theorem c__law_listed : cSs 300 (f__law_listed.cn (fs.map (·.sg)) (xs.map (·.c))) f__law_listed.d.body = some Tw.fn__law_listed.body := by kernel_rfl
theorem c__law_wide : cSs 300 (f__law_wide.cn (fs.map (·.sg)) (xs.map (·.c))) f__law_wide.d.body = some Tw.fn__law_wide.body := by kernel_rfl
theorem c__law_river : cSs 300 (f__law_river.cn (fs.map (·.sg)) (xs.map (·.c))) f__law_river.d.body = some Tw.fn__law_river.body := by kernel_rfl
theorem c__law_leads : cSs 300 (f__law_leads.cn (fs.map (·.sg)) (xs.map (·.c))) f__law_leads.d.body = some Tw.fn__law_leads.body := by kernel_rfl
theorem c__law_moor : cSs 300 (f__law_moor.cn (fs.map (·.sg)) (xs.map (·.c))) f__law_moor.d.body = some Tw.fn__law_moor.body := by kernel_rfl
theorem c__law_holds : cSs 300 (f__law_holds.cn (fs.map (·.sg)) (xs.map (·.c))) f__law_holds.d.body = some Tw.fn__law_holds.body := by kernel_rfl
theorem c__law_lies : cSs 300 (f__law_lies.cn (fs.map (·.sg)) (xs.map (·.c))) f__law_lies.d.body = some Tw.fn__law_lies.body := by kernel_rfl
theorem c__law_going : cSs 300 (f__law_going.cn (fs.map (·.sg)) (xs.map (·.c))) f__law_going.d.body = some Tw.fn__law_going.body := by kernel_rfl
theorem c__law_stroke : cSs 300 (f__law_stroke.cn (fs.map (·.sg)) (xs.map (·.c))) f__law_stroke.d.body = some Tw.fn__law_stroke.body := by kernel_rfl
theorem c__law_refused : cSs 300 (f__law_refused.cn (fs.map (·.sg)) (xs.map (·.c))) f__law_refused.d.body = some Tw.K04.fn__law_refused.body := by kernel_rfl
theorem c__law_right : cSs 300 (f__law_right.cn (fs.map (·.sg)) (xs.map (·.c))) f__law_right.d.body = some Tw.K04.fn__law_right.body := by kernel_rfl
theorem c_law : cSs 300 (f_law.cn (fs.map (·.sg)) (xs.map (·.c))) f_law.d.body = some Tw.K04.fn_law.body := by kernel_rfl
def Pm : Pg := fun x => if x = "is_number" then some Tw.fn_is_number else if x = "is_count" then some Tw.fn_is_count else if x = "is_boat" then some Tw.fn_is_boat else if x = "look_boat" then some Tw.fn_look_boat else if x = "towed" then some Tw.fn_towed else if x = "stroked" then some Tw.fn_stroked else if x = "rowed" then some Tw.fn_rowed else if x = "strokes_of" then some Tw.fn_strokes_of else if x = "_law_box" then some Tw.fn__law_box else if x = "_law_take" then some Tw.fn__law_take else if x = "_law_cells" then some Tw.fn__law_cells else if x = "_law_of" then some Tw.fn__law_of else if x = "_law_same" then some Tw.fn__law_same else if x = "_law_listed" then some Tw.fn__law_listed else if x = "_law_wide" then some Tw.fn__law_wide else if x = "_law_river" then some Tw.fn__law_river else if x = "_law_leads" then some Tw.fn__law_leads else if x = "_law_moor" then some Tw.fn__law_moor else if x = "_law_holds" then some Tw.fn__law_holds else if x = "_law_lies" then some Tw.fn__law_lies else if x = "_law_going" then some Tw.fn__law_going else if x = "_law_stroke" then some Tw.fn__law_stroke else if x = "_law_refused" then some Tw.K04.fn__law_refused else if x = "_law_right" then some Tw.K04.fn__law_right else if x = "law" then some Tw.K04.fn_law else none
theorem good : (fs.all fun f => f.good) = true := by kernel_rfl
theorem xgood : (xs.all fun x => x.good) = true := by kernel_rfl
theorem body : ∀ f ∈ fs, ∃ b, cSs 300 (f.cn (fs.map (·.sg)) (xs.map (·.c))) f.d.body = some b ∧ Pm f.sg.id = some ⟨f.sg.ps.length, f.N.length, b⟩ := by
  intro f hf
  simp only [fs, List.mem_cons, List.not_mem_nil, or_false] at hf
  rcases hf with rfl | rfl | rfl | rfl | rfl | rfl | rfl | rfl | rfl | rfl | rfl | rfl | rfl | rfl | rfl | rfl | rfl | rfl | rfl | rfl | rfl | rfl | rfl | rfl | rfl
  · exact ⟨_, c_is_number, rfl⟩
  · exact ⟨_, c_is_count, rfl⟩
  · exact ⟨_, c_is_boat, rfl⟩
  · exact ⟨_, c_look_boat, rfl⟩
  · exact ⟨_, c_towed, rfl⟩
  · exact ⟨_, c_stroked, rfl⟩
  · exact ⟨_, c_rowed, rfl⟩
  · exact ⟨_, c_strokes_of, rfl⟩
  · exact ⟨_, c__law_box, rfl⟩
  · exact ⟨_, c__law_take, rfl⟩
  · exact ⟨_, c__law_cells, rfl⟩
  · exact ⟨_, c__law_of, rfl⟩
  · exact ⟨_, c__law_same, rfl⟩
  · exact ⟨_, c__law_listed, rfl⟩
  · exact ⟨_, c__law_wide, rfl⟩
  · exact ⟨_, c__law_river, rfl⟩
  · exact ⟨_, c__law_leads, rfl⟩
  · exact ⟨_, c__law_moor, rfl⟩
  · exact ⟨_, c__law_holds, rfl⟩
  · exact ⟨_, c__law_lies, rfl⟩
  · exact ⟨_, c__law_going, rfl⟩
  · exact ⟨_, c__law_stroke, rfl⟩
  · exact ⟨_, c__law_refused, rfl⟩
  · exact ⟨_, c__law_right, rfl⟩
  · exact ⟨_, c_law, rfl⟩
def loose0 : List PySem.Str := ["NoBoat", "NoLine", "Behind", "is_number", "is_count", "is_boat", "look_boat", "towed", "stroked", "rowed", "strokes_of", "_law_box", "_law_take", "_law_cells", "_law_of", "_law_same", "_law_listed", "_law_wide", "_law_river", "_law_leads", "_law_moor", "_law_holds", "_law_lies", "_law_going", "_law_stroke", "_law_refused", "_law_right"]
def loose : List PySem.Str := loose0
abbrev R : PySem.W.OpenRow := PySem.W.OpenLaw.row PySem.Challenge.rw_towlines_k04_strokes_and_whom_they_tow
abbrev hk : PySem.W.Hook := hookX 6 (xs.map (·.c)) (fasOf fs) (fdsOf fs xs)
def ob (s : PySem.W.SharedT) : AlX := lookG 6 (xs.map (·.c)) (fasOf fs) (fdsOf fs xs) (HandSHeadRun.getT s)
theorem ob_eq (s : PySem.W.SharedT) : ob s = hk.obs s.abs := lookG_eq (HandSHeadRun.getT_eq s)
theorem run (w : World) : HandSHeadRun.RunEq R (PySem.W.view R.prog [31]) hk ob 4000 loose w := by
  intro os
  kernel_rfl
end K04
open PySem PySem.W PySem.Calls PyProof.Rows
set_option maxRecDepth 100000 in
set_option maxHeartbeats 0 in
theorem PySem.Challenge.cw_towlines_k04_strokes_and_whom_they_tow_holds : PySem.Challenge.rw_towlines_k04_strokes_and_whom_they_tow.Holds := by
  w_on; o_law
  refine HandSHeadRun.head_any (r := OpenLaw.row PySem.Challenge.rw_towlines_k04_strokes_and_whom_they_tow) (q := view (OpenLaw.row PySem.Challenge.rw_towlines_k04_strokes_and_whom_they_tow).prog [31]) (H := K04.hk) (ob := K04.ob) (M := 4000) (loose := K04.loose) (d := HandSHeadRun.topDef (OpenLaw.row PySem.Challenge.rw_towlines_k04_strokes_and_whom_they_tow).prog 31) (kwd := []) K04.ob_eq
    (by kernel_rfl) (fun s => by kernel_rfl) K04.run (by kernel_rfl) (by kernel_rfl) (by kernel_rfl) (by rfl) (by first | assumption | decide +kernel) (by decide +kernel) ⟨rfl, rfl, rfl, rfl, rfl, by decide +kernel⟩ ?hw ?hc
  case hw => w_witness2
  case hc =>
    refine Tw.law_walk (l := PySem.Challenge.rw_towlines_k04_strokes_and_whom_they_tow) (n := 63) (k := 60) (x := "_law_script") (Pm := K04.Pm) (id := "law") rfl (by decide) (by kernel_rfl) ⟨rfl, by decide, by decide⟩ ?F ?say
    case say => exact fun zs hz => Tw.K04.law_ok (by repeat' (first | rfl | constructor)) 50 zs hz
    intro w mg fa h Y G hmg0
    obtain ⟨K, KX, c1, c⟩ := Y
    have hmg : mg ("law" : PySem.Str) = some (.ref fa) := by
      have e : (HandSHeadRun.topDef (OpenLaw.row PySem.Challenge.rw_towlines_k04_strokes_and_whom_they_tow).prog 31).name = ("law" : PySem.Str) := by kernel_rfl
      rw [← e]
      exact hmg0
    obtain ⟨fd, hb, hF⟩ := Tw.facts_of (P := (PySem.Challenge.rw_towlines_k04_strokes_and_whom_they_tow).prog) (w := w) (f := K04.f_law) (x := "_law_script") 60 KX hmg (Tw.defs_of KX G c1 c K04.good K04.xgood K04.body) (by simp [K04.fs]) rfl rfl
    exact ⟨K, fd, KX, hb, hF⟩
