import PyProof.Rows.All
import Wide.All
import OpenK.AllK
import Wide.FinOn
import HandS.ForMost
import HandS.IsInst
import HandS.IterVal
import HandS.MakeKw
import HandS.MakeKwOnly
import HandS.OwnIter
import HandS.Lambda
import KE.GoesEnum
import KE.KDictZip
import PySem.Challenge.RW_bestwhatever_k77_square_tables_keep_what
import HandS.Style
set_option Elab.async false
set_option linter.all false
set_option maxRecDepth 100000
set_option maxHeartbeats 4000000
namespace B7
open PySem PySem.Spec PyProof.Rows L2

/-! ### a promise that may lean on: no container is being shown -/
structure FnG (P : Program) (w : World) (K : PySem.W.Frag) (mg : Str → Option Value) (base : Heap) (k : Nat) (f : Addr) (fd : FuncData) (ps : List Str) (sp : Sp) : Prop where
  len : ∀ vs H Q E, sp vs H Q E → vs.length = ps.length
  run : ∀ (A : Around) (outer : List Env) (s : Shared) (H : Hp) (args : Args) (us : List Value) (vs : List V) (Q : VK) (E : XK), A.guards = some [] → Room k A → Env0 P w K mg base A outer s H → BindsTo s fd args (ps.zip us) → Vals vs us →
    sp vs H Q E → codeAny (model P w) A (.call (.ref f) args) (CR CX0 outer P w H s Q E) s

section
variable {P : Program} {w : World} {K : PySem.W.Frag} {mg : Str → Option Value} {base : Heap}
theorem fnG_of {x qual : Str} {st : Stmt} {f : Addr} {fd : FuncData} {N ps : List Str} {k : Nat} {sp : Sp} (F : Fun K x qual st f fd) (S : FnScope N ps (defScope st)) (len : ∀ vs H Q E, sp vs H Q E → vs.length = ps.length)
    (hb : ∀ (cdv : Value) (A : Around) (outer : List Env) (s : Shared) (H : Hp) (vs : List V) (Q : VK) (E : XK), A.guards = some [] → Room k (A.deeper (envOfC qual (defScope st) s.heap.objs.size f cdv)) → sp vs H Q E →
      ∃ t, PSs (cxOf CX0 P w K mg base N qual (defScope st) f cdv A outer s H E).nox (defBody st) t ∧ t { nx := fun _ H' => Q .non H', rt := Q } (start N vs) H) : FnG P w K mg base (k + 1) f fd ps sp := by
  obtain ⟨oc, od, kV, doc, pm, an, cdv, ct, osl, rfl, lk, hcd⟩ := F.ex
  refine ⟨len, fun A outer s H args us vs Q E hgd hr e0 hbd r hsp => ?_⟩
  -- the plain rule, at the promise that holds of this very call alone
  have hl := len _ _ _ _ hsp
  have KX : K.In s.heap := e0.mod.kin.keeps fun b o e => (e0.bs b o e).1
  have lim : s.heap.NoLimit := e0.mod.nolimit.keeps fun b o e => (e0.bs b o e).1
  have pk : ∀ y ∈ ps.zip us, (defScope st).names.lookup y.1 = some .local ∨ ((defScope st).names.lookup y.1 = some .cell ∧ ((cellsFrom (s.heap.objs.size + 1) (defScope st).names []).lookup y.1).isSome = true) := by
    rintro ⟨n, v⟩ hy
    cases S.par n (List.of_mem_zip hy).1 with
    | inl q => exact .inl q
    | inr q => exact .inr ⟨q, PySem.W.cellsFrom_some _ _ _ (.inl q)⟩
  refine codeAny_call_function hr.depth (KX _ _ lk) rfl S.co S.gen rfl (PySem.W.codeRec_of KX hcd) (hbd _ _ _ _ ?_)
  refine wpAny_newFunctionEnv_cells S.kind pk fun env he s1 hc => ?_
  subst he
  refine ⟨lim.keeps hc.toInCall.keep, codeAny_func ?_⟩
  obtain ⟨t, ht, hq⟩ := hb cdv A outer s H vs Q E hgd (hr.deeper _) hsp
  refine wpAny_mono (ht.nox.run [] s1 (start N vs) H _ (inv_start S hr.hd e0 hl r hc) hq) (fun fl s' hs => ?_) fun _ _ z => z
  cases fl with
  | next =>
    obtain ⟨σ', H', J, q⟩ := hs
    exact ⟨V.non, H', J.os, J.bare, J.base, J.hok, rfl, q⟩
  | ret u =>
    obtain ⟨v, σ', H', J, rv, q⟩ := hs
    exact ⟨v, H', J.os, J.bare, J.base, J.hok, rv, q⟩
  | brk => exact hs.choose_spec.choose_spec.2.elim
  | cont => exact hs.choose_spec.choose_spec.2.elim
end

section
variable {X : Cx} {k : Nat} {f : Addr} {fd : FuncData} {ps : List Str} {sp : Sp} {x : Str} {p pos : Pos} {e : Expr} {es : List Expr} {t : TA}
theorem pe_callG (F : FnG X.prog X.w X.K X.mg X.base k f fd ps sp) (hgd : X.A.guards = some []) (hr : Room k X.A) (hg : Gl X x) (hm : X.mg x = some (.ref f)) (hk : PySem.W.keepIn X.K (.ref f) = true) (hb : Binds X.K fd ps [])
    (ha : PA X (e :: es) t) (hdb : (x == ("__debug__" : Str)) = false := by decide) (he : starEach (e :: es) X.env = (false, eval e X.env) :: starEach es X.env := by rfl) (hpl : (backTo pos (starEach es X.env)).any (·.1) = false := by rfl) :
    PE X (.Call (.Name x p) (e :: es) [] pos) (tCall sp [] E0 t) := by
  refine ⟨fun pins s σ H Q I h => wpAny_Call_Name_kw (ld_glob I hg hm ?_ hdb)⟩
  refine PySem.W.callWith_K (h₀ := X.base) I.ok.mod.kin hk (thn (ha.run pos pins s σ H _ I h) fun us s1 hv => ?_) he hpl
  obtain ⟨vs, H1, I1, r, q⟩ := hv
  rw [List.append_nil] at q
  have hl : us.length = ps.length := by rw [← r.length]; exact F.len _ _ _ _ q
  have hb1 := hb s1 us I1.kIn (by rw [List.append_nil]; exact hl)
  rw [List.append_nil] at hb1
  refine ⟨I1.kIn, wpAny_call (codeAny_mono (F.run X.A X.stack s1 H1 ⟨us, []⟩ us vs Q E0 hgd hr I1.env0 hb1 r q) fun rs s' hq => ?_)⟩
  cases rs with
  | error er => exact hq.elim
  | ok fl =>
    cases fl with
    | ret u => exact I1.after hq
    | next => exact False.elim hq
    | brk => exact False.elim hq
    | cont => exact False.elim hq
end

/-- a def that any caller may call -/
theorem FnG.of {P : Program} {w : World} {K : PySem.W.Frag} {mg : Str → Option Value} {base : Heap} {k : Nat} {f : Addr} {fd : FuncData} {ps : List Str} {sp : Sp} (F : FnOk P w K mg base CX0 k f fd ps sp) : FnG P w K mg base k f fd ps sp :=
  ⟨F.len, fun A outer s H args us vs Q E _ => F.run A outer s H args us vs Q E⟩

/-! ### repr of data -/
def rRepr (K : PySem.W.Frag) : List V → Hp → VK → Prop := fun xs H Q => ∃ (x : V) (d : PyData), xs = [x] ∧ Dp K H x d ∧ d.showable = true ∧ d.hasDict = false ∧ d.depth ≤ 20 ∧ d.shown.length ≤ sizeLine ∧ Q (.str d.shown) H
theorem call_repr {X : Cx} (hgd : X.A.guards = some []) (hu : X.A.units + 64 < cLine) : CallR X (.builtin "repr") (rRepr X.K) := by
  intro pins s σ H xs us Q I r h
  obtain ⟨x, d, rfl, hd, hs, hn, hdp, hz, q⟩ := h
  obtain ⟨u, rfl, ru⟩ := vals1 r
  cases hd with
  | non => cases ru; exact PySem.P.repr_of_none ⟨.str _, H, I.tok _, ⟨_, rfl⟩, q⟩
  | bl b => cases ru; exact PySem.P.repr_of_bool ⟨.str _, H, I.tok _, ⟨_, rfl⟩, q⟩
  | int i =>
    obtain ⟨t, rfl⟩ := ru
    have hi : i.natAbs.log2 < 1920 := by simpa [PyData.showable] using hs
    exact PySem.P.repr_of_int hi ⟨.str _, H, I.tok _, ⟨_, rfl⟩, q⟩
  | str z =>
    obtain ⟨t, rfl⟩ := ru
    exact PySem.P.repr_of_str ⟨.str _, H, I.tok _, ⟨_, rfl⟩, q⟩ hz
  | lst h1 h2 =>
    obtain ⟨as, r1⟩ := Dp.reads I _ _ _ (.lst h1 h2) ru
    cases ru
    exact repr_of_reads' r1 hs (PyData.noDict_hsm hn) hgd (by omega) (fun _ _ e => e) (fun h' u tk hk => ⟨.str _, H, I.kept hk, ⟨_, rfl⟩, q⟩) hz
  | tup h1 h2 =>
    obtain ⟨as, r1⟩ := Dp.reads I _ _ _ (.tup h1 h2) ru
    cases ru
    exact repr_of_reads' r1 hs (PyData.noDict_hsm hn) hgd (by omega) (fun _ _ e => e) (fun h' u tk hk => ⟨.str _, H, I.kept hk, ⟨_, rfl⟩, q⟩) hz
end B7
namespace B7
open PySem PySem.Spec PyProof.Rows L2 PySem.W

/-! ### a zip of three tuples, drawn from while the tuples that it gave are kept -/
section
variable {prog : Program} {w : World} {A : Around} {E : Value → Shared → Prop} {s : Shared} {z TI TO i1 i2 i3 t1 t2 t3 : Addr} {X1 X2 X3 : Array Value} {i n : Nat}

/-- where the zip stands ahead of turn i -/
structure Z3 (h : Heap) (z TI TO i1 i2 i3 t1 t2 t3 : Addr) (X1 X2 X3 : Array Value) (i : Nat) : Prop where
  zz : IsZip h z TI TO .none ∨ ∃ T f a b c, IsZipHeld h z TI TO T f ∧ IsTupOf3 h T a b c
  ti : IsTupOf3 h TI (.ref i1) (.ref i2) (.ref i3)
  to : ∃ a b c, IsTupOf3 h TO a b c
  s1 : h.IsTupleIter i1 t1 i ∧ h.IsTuple t1 X1
  s2 : h.IsTupleIter i2 t2 i ∧ h.IsTuple t2 X2
  s3 : h.IsTupleIter i3 t3 i ∧ h.IsTuple t3 X3

theorem Z3.at_ {h h' : Heap} (x : Z3 h z TI TO i1 i2 i3 t1 t2 t3 X1 X2 X3 i) {S : Addr} (k : ∀ b o, b ≠ S → h.get? b = some o → h'.get? b = some o) {xs : Array Value} {c : Nat}
    (hS : h.get? S = some { cls := .type "list", dict := none, data := .seq xs c, slots := #[] }) : Z3 h' z TI TO i1 i2 i3 t1 t2 t3 X1 X2 X3 i := by
  have nz : ∀ {b : Addr} {o : Obj}, h.get? b = some o → o.cls ≠ .type "list" → h'.get? b = some o := fun {b o} e ne => k b o (fun q => by
    subst q
    rw [hS] at e
    cases e
    exact ne rfl) e
  have ni : ∀ {a t : Addr} {j : Nat}, h.IsTupleIter a t j → h'.IsTupleIter a t j := fun {a t j} ⟨o, e, c, d⟩ => ⟨o, nz e (by rw [c]; decide), c, d⟩
  have nt : ∀ {a : Addr} {ys : Array Value}, h.IsTuple a ys → h'.IsTuple a ys := fun {a ys} ⟨o, e, c, d⟩ => ⟨o, nz e (by rw [c]; decide), c, d⟩
  refine ⟨?_, nz x.ti (show Value.type "tuple" ≠ Value.type "list" by decide), ?_, ⟨ni x.s1.1, nt x.s1.2⟩, ⟨ni x.s2.1, nt x.s2.2⟩, ⟨ni x.s3.1, nt x.s3.2⟩⟩
  · rcases x.zz with q | ⟨T, f, a, b, c, q1, q2⟩
    · exact .inl (nz q (show Value.type "zip" ≠ Value.type "list" by decide))
    · exact .inr ⟨T, f, a, b, c, nz q1 (show Value.type "zip" ≠ Value.type "list" by decide), nz q2 (show Value.type "tuple" ≠ Value.type "list" by decide)⟩
  · obtain ⟨a, b, c, q⟩ := x.to
    exact ⟨a, b, c, nz q (show Value.type "tuple" ≠ Value.type "list" by decide)⟩

theorem z3_held (S : ZipSep3 z TI TO i1 i2 i3 [i1, t1] [i2, t2] [i3, t3]) (hh : A.handled = none) (n1 : t1 ≠ i1) (n2 : t2 ≠ i2) (n3 : t3 ≠ i3) {T : Addr} {f : Bool} {a b c : Value} (hz : IsZipHeld s.heap z TI TO T f) (hT : IsTupOf3 s.heap T a b c)
    (hTI : IsTupOf3 s.heap TI (.ref i1) (.ref i2) (.ref i3)) (s1 : s.heap.IsTupleIter i1 t1 i ∧ s.heap.IsTuple t1 X1) (s2 : s.heap.IsTupleIter i2 t2 i ∧ s.heap.IsTuple t2 X2) (s3 : s.heap.IsTupleIter i3 t3 i ∧ s.heap.IsTuple t3 X3)
    (l1 : i < X1.size) (l2 : i < X2.size) (l3 : i < X3.size) {Q : Value → Shared → Prop}
    (hQ : ∀ x1 x2 x3 h' tk, X1[i]? = some x1 → X2[i]? = some x2 → X3[i]? = some x3 → IsZipHeld h' z TI TO T true → (h'.IsTupleIter i1 t1 (i + 1) ∧ h'.IsTuple t1 X1) → (h'.IsTupleIter i2 t2 (i + 1) ∧ h'.IsTuple t2 X2) →
      (h'.IsTupleIter i3 t3 (i + 1) ∧ h'.IsTuple t3 X3) → IsTupOf3 h' s.heap.objs.size x1 x2 x3 → h'.objs.size = s.heap.objs.size + 1 →
      (∀ b o, b ≠ z → b ≠ i1 → b ≠ i2 → b ≠ i3 → s.heap.get? b = some o → h'.get? b = some o) → Q (.ref s.heap.objs.size) { s with heap := h', toks := tk }) :
    wpAny (model prog w) A (Builtin.«zip.__next__» ⟨[.ref z], []⟩) (fun fin s' => ∃ v, fin = .done (.ret v) ∧ Q v s') E s := by
  have D1 := Draws.tuple (prog := prog) (w := w) (A := A) hh i1 t1 n1 X1
  have D2 := Draws.tuple (prog := prog) (w := w) (A := A) hh i2 t2 n2 X2
  have D3 := Draws.tuple (prog := prog) (w := w) (A := A) hh i3 t3 n3 X3
  obtain ⟨hp, g, d, tk0, os⟩ := s
  show wpAny _ _ (field (.ref z) 2 >>= _) _ _ _
  refine wpAny_bind (wpAny_field hz rfl (x := .bool false) rfl ?_)
  show wpAny _ _ (field (.ref z) 3 >>= _) _ _ _
  refine wpAny_bind (wpAny_field hz rfl (x := .ref TI) rfl ?_)
  refine wpAny_bind (wpAny_seqItems hTI rfl ?_)
  show wpAny _ _ (Builtin.SmallTypes.ownedTupleIsFree (.ref z) >>= _) _ _ _
  refine wpAny_bind (wpAny_tupleHeld_zip hz hT fun g0 hz0 hs0 => ?_)
  replace hs0 : Heap.SameBut z hp g0 := hs0
  simp only [Bool.false_eq_true, if_false]
  refine wpAny_bind ?_
  rw [← Array.forIn_toList]
  simp only [List.forIn_cons, List.forIn_nil]
  refine wpAny_bind (wpAny_bind (wpAny_holding ?_))
  show wpAny _ _ (Builtin.SmallTypes.nextOf (.ref i1) >>= _) _ _ ⟨g0, g, d, tk0, os⟩
  refine wpAny_bind (D1.item i _ _ _ l1 (D1.over s1 hs0 S.zf1) fun x1 p1 tk1 hx1 sn1 hp1 => wpAny_pure (wpAny_pure ?_))
  replace hp1 : Heap.SameBut i1 g0 p1 := hp1
  refine wpAny_bind (wpAny_bind (wpAny_holding ?_))
  show wpAny _ _ (Builtin.SmallTypes.nextOf (.ref i2) >>= _) _ _ ⟨p1, g, d, tk1, os⟩
  refine wpAny_bind (D2.item i _ _ _ l2 (D2.over (D2.over s2 hs0 S.zf2) hp1 S.sep1_2) fun x2 p2 tk2 hx2 sn2 hp2 => wpAny_pure (wpAny_pure ?_))
  replace hp2 : Heap.SameBut i2 p1 p2 := hp2
  refine wpAny_bind (wpAny_bind (wpAny_holding ?_))
  show wpAny _ _ (Builtin.SmallTypes.nextOf (.ref i3) >>= _) _ _ ⟨p2, g, d, tk2, os⟩
  refine wpAny_bind (D3.item i _ _ _ l3 (D3.over (D3.over (D3.over s3 hs0 S.zf3) hp1 S.sep1_3) hp2 S.sep2_3) fun x3 p3 tk3 hx3 sn3 hp3 => wpAny_pure (wpAny_pure (wpAny_pure ?_)))
  replace hp3 : Heap.SameBut i3 p2 p3 := hp3
  show wpAny _ _ (newTuple [x1, x2, x3] >>= _) _ _ ⟨p3, g, d, tk3, os⟩
  refine wpAny_bind (wpAny_newTuple ?_)
  have hsz : p3.objs.size = hp.objs.size := by rw [hp3.1, hp2.1, hp1.1, hs0.1]
  have kk : ∀ b o, b ≠ z → b ≠ i1 → b ≠ i2 → b ≠ i3 → hp.get? b = some o → p3.get? b = some o := fun b o c0 c1 c2 c3 e => hp3.extBut _ _ c3 (hp2.extBut _ _ c2 (hp1.extBut _ _ c1 (hs0.extBut _ _ c0 e)))
  have hz3 : IsZipHeld p3 z TI TO T true := hp3.extBut _ _ S.zi3 (hp2.extBut _ _ S.zi2 (hp1.extBut _ _ S.zi1 hz0))
  have e1 := D1.over (D1.over sn1 hp2 S.sep2_1) hp3 S.sep3_1
  have e2 := D2.over sn2 hp3 S.sep3_2
  refine wpAny_pure ⟨_, rfl, ?_⟩
  have hnew : (p3.push { cls := .type "tuple", data := .seq [x1, x2, x3].toArray }).get? p3.objs.size = some ({ cls := .type "tuple", data := .seq #[x1, x2, x3] } : Obj) := Heap.get?_push_size _ rfl
  have hzz : (p3.push { cls := .type "tuple", data := .seq [x1, x2, x3].toArray }).objs.size = p3.objs.size + 1 := Heap.size_push ..
  have pu : ∀ {b : Addr} {o : Obj}, p3.get? b = some o → (p3.push { cls := .type "tuple", data := .seq [x1, x2, x3].toArray }).get? b = some o := fun e => Heap.get?_push_of_some _ e
  show Q (.ref p3.objs.size) _
  rw [hsz] at hnew hzz ⊢
  exact hQ x1 x2 x3 _ _ hx1 hx2 hx3 (pu hz3) ⟨e1.1.at fun o e => pu e, e1.2.at fun o e => pu e⟩ ⟨e2.1.at fun o e => pu e, e2.2.at fun o e => pu e⟩ ⟨sn3.1.at fun o e => pu e, sn3.2.at fun o e => pu e⟩ hnew hzz
    fun b o c0 c1 c2 c3 e => pu (kk b o c0 c1 c2 c3 e)

/-- one turn -/
theorem z3_item (S : ZipSep3 z TI TO i1 i2 i3 [i1, t1] [i2, t2] [i3, t3]) (hh : A.handled = none) (n1 : t1 ≠ i1) (n2 : t2 ≠ i2) (n3 : t3 ≠ i3) (st : Z3 s.heap z TI TO i1 i2 i3 t1 t2 t3 X1 X2 X3 i) (l1 : i < X1.size) (l2 : i < X2.size) (l3 : i < X3.size)
    {Q : Option Value → Shared → Prop}
    (hQ : ∀ x1 x2 x3 h' tk, X1[i]? = some x1 → X2[i]? = some x2 → X3[i]? = some x3 → Z3 h' z TI TO i1 i2 i3 t1 t2 t3 X1 X2 X3 (i + 1) → IsTupOf3 h' s.heap.objs.size x1 x2 x3 → h'.objs.size = s.heap.objs.size + 1 →
      (∀ b o, b ≠ z → b ≠ TO → b ≠ i1 → b ≠ i2 → b ≠ i3 → s.heap.get? b = some o → h'.get? b = some o) → Q (some (.ref s.heap.objs.size)) { s with heap := h', toks := tk }) : wpAny (model prog w) A (pyNext (.ref z)) Q E s := by
  obtain ⟨zz, ti, ⟨u1, u2, u3, hto⟩, s1, s2, s3⟩ := st
  rcases zz with hz | ⟨T, f, a, b, c, hz, hT⟩
  · have D1 := Draws.tuple (prog := prog) (w := w) (A := A.in1) hh i1 t1 n1 X1
    have D2 := Draws.tuple (prog := prog) (w := w) (A := A.in1) hh i2 t2 n2 X2
    have D3 := Draws.tuple (prog := prog) (w := w) (A := A.in1) hh i3 t3 n3 X3
    refine wpAny_pyNext_zipD3_item S D1 D2 D3 hz ti hto s1 s2 s3 l1 l2 l3 fun x1 x2 x3 h' tk hx1 hx2 hx3 hz' hto' e1 e2 e3 ht hsz kk => ?_
    refine hQ x1 x2 x3 h' tk hx1 hx2 hx3 ⟨.inr ⟨s.heap.objs.size, false, x1, x2, x3, hz', ht⟩, kk _ _ S.TIz S.TITO S.TIi1 S.TIi2 S.TIi3 ti, ⟨_, _, _, hto'⟩, e1, e2, e3⟩ ht hsz kk
  · have hTy : s.TypeIs (.ref z) "zip" := ⟨_, hz, rfl⟩
    have nT : ∀ {j : Addr} {t : Addr} {k : Nat}, s.heap.IsTupleIter j t k → T ≠ j := fun {j t k} ⟨o, e, cc, _⟩ q => by
      subst q
      rw [hT] at e
      cases e
      exact absurd cc (show ¬ (Value.type "tuple" = Value.type "tuple_iterator") by decide)
    have nTz : T ≠ z := fun q => by
      subst q
      have q2 := hT.symm.trans hz
      injection q2 with q3
      exact absurd (congrArg Obj.cls q3) (show ¬ (Value.type "tuple" = Value.type "zip") by decide)
    unfold pyNext
    refine wpAny_bind (wpAny_attempt (wpAny_callSpecial?_slot (name := Str.ofString "__next__") hTy F.slot_zip_next
      (wpAny_call_entry F.slot_zip_next hTy F.entry_zip_next (z3_held (A := A.in1) S hh n1 n2 n3 hz hT ti s1 s2 s3 l1 l2 l3 fun x1 x2 x3 h' tk hx1 hx2 hx3 hz' e1 e2 e3 ht hsz kk => wpAny_pure ?_) (F.args_zip_next_1 _))))
    refine hQ x1 x2 x3 h' tk hx1 hx2 hx3 ⟨.inr ⟨T, true, a, b, c, hz', kk _ _ nTz (nT s1.1) (nT s2.1) (nT s3.1) hT⟩, kk _ _ S.TIz S.TIi1 S.TIi2 S.TIi3 ti, ⟨_, _, _, kk _ _ S.TOz S.Ti1 S.Ti2 S.Ti3 hto⟩, e1, e2, e3⟩ ht hsz
      fun b o c0 _ c1 c2 c3 e => kk b o c0 c1 c2 c3 e

/-- the end of all three -/
theorem z3_done (S : ZipSep3 z TI TO i1 i2 i3 [i1, t1] [i2, t2] [i3, t3]) (hh : A.handled = none) (n1 : t1 ≠ i1) (n2 : t2 ≠ i2) (n3 : t3 ≠ i3) (st : Z3 s.heap z TI TO i1 i2 i3 t1 t2 t3 X1 X2 X3 i) (l1 : i = X1.size) (l2 : i = X2.size) (l3 : i = X3.size)
    {Q : Option Value → Shared → Prop}
    (hQ : ∀ h' tk, (∀ b o, b ≠ z → b ≠ TO → b ≠ i1 → b ≠ i2 → b ≠ i3 → s.heap.get? b = some o → h'.get? b = some o) → Q none { s with heap := h', toks := tk }) : wpAny (model prog w) A (pyNext (.ref z)) Q E s := by
  obtain ⟨zz, ti, ⟨u1, u2, u3, hto⟩, s1, s2, s3⟩ := st
  have D1 := Draws.tuple (prog := prog) (w := w) (A := A.in1) hh i1 t1 n1 X1
  have D2 := Draws.tuple (prog := prog) (w := w) (A := A.in1) hh i2 t2 n2 X2
  have D3 := Draws.tuple (prog := prog) (w := w) (A := A.in1) hh i3 t3 n3 X3
  rcases zz with hz | ⟨T, f, a, b, c, hz, hT⟩
  · exact wpAny_pyNext_zipD3_end S D1 D2 D3 hz ti hto s1 s2 s3 (by omega) (by omega) (by omega) (.inl l1) fun h' tk kk => hQ h' tk kk
  · have hTy : s.TypeIs (.ref z) "zip" := ⟨_, hz, rfl⟩
    subst l1
    unfold pyNext
    refine wpAny_bind (wpAny_attempt (wpAny_callSpecial?_slot (name := Str.ofString "__next__") hTy F.slot_zip_next
      (wpAny_call_entry F.slot_zip_next hTy F.entry_zip_next ?_ (F.args_zip_next_1 _))))
    obtain ⟨hp, g, d, tk0, os⟩ := s
    show wpAny _ _ (field (.ref z) 2 >>= _) _ _ _
    refine wpAny_bind (wpAny_field hz rfl (x := .bool false) rfl ?_)
    show wpAny _ _ (field (.ref z) 3 >>= _) _ _ _
    refine wpAny_bind (wpAny_field hz rfl (x := .ref TI) rfl ?_)
    refine wpAny_bind (wpAny_seqItems ti rfl ?_)
    show wpAny _ _ (Builtin.SmallTypes.ownedTupleIsFree (.ref z) >>= _) _ _ _
    refine wpAny_bind (wpAny_tupleHeld_zip hz hT fun g0 hz0 hs0 => ?_)
    replace hs0 : Heap.SameBut z hp g0 := hs0
    simp only [Bool.false_eq_true, if_false]
    refine wpAny_bind ?_
    rw [← Array.forIn_toList]
    simp only [List.forIn_cons, List.forIn_nil]
    refine wpAny_bind (wpAny_bind (wpAny_holding ?_))
    show wpAny _ _ (Builtin.SmallTypes.nextOf (.ref i1) >>= _) _ _ ⟨g0, g, d, tk0, os⟩
    refine wpAny_bind (D1.done _ _ _ (D1.over s1 hs0 S.zf1) fun h' e hx he => ?_)
    obtain ⟨o, ho, hc⟩ := he
    refine wpAny_bind (wpAny_isInstance (T := "StopIteration") (b := true) ⟨o, ho, hc⟩ isSubtype_stop ?_)
    exact wpAny_pure (hQ _ _ fun b o c0 _ c1 _ _ e => hx _ _ c1 (hs0.extBut _ _ c0 e))
end
end B7
namespace B7
open PySem PySem.Spec PyProof.Rows L2 PySem.W

/-! ### list(zip of three tuples) -/
/-- at L the list of the objects at as -/
def LstAt (h : Heap) (L : Addr) (as : List Addr) : Prop := ∃ c, h.get? L = some { cls := .type "list", dict := none, data := .seq (as.map Value.ref).toArray c, slots := #[] }
/-- what the loop has made so far: the tuples at as, in order, each apart from the others, none older than lo -/
def Made3 (h : Heap) (lo : Addr) (X1 X2 X3 : Array Value) (as : List Addr) : Prop :=
  as.Nodup ∧ (∀ a ∈ as, lo ≤ a ∧ a < h.objs.size) ∧ ∀ (j : Nat) (a : Addr), as[j]? = some a → ∃ x1 x2 x3, X1[j]? = some x1 ∧ X2[j]? = some x2 ∧ X3[j]? = some x3 ∧ IsTupOf3 h a x1 x2 x3

section
variable {prog : Program} {w : World} {A : Around} {E : Value → Shared → Prop} {s : Shared} {z TI TO i1 i2 i3 t1 t2 t3 : Addr} {X1 X2 X3 : Array Value}
theorem Z3.apart {h : Heap} {L : Addr} {as : List Addr} {i : Nat} (st : Z3 h z TI TO i1 i2 i3 t1 t2 t3 X1 X2 X3 i) (hL : LstAt h L as) : L ≠ z ∧ L ≠ TO ∧ L ≠ i1 ∧ L ≠ i2 ∧ L ≠ i3 := by
  obtain ⟨c, hL⟩ := hL
  have no : ∀ {b : Addr} {o : Obj}, h.get? b = some o → o.cls ≠ .type "list" → L ≠ b := fun {b o} e ne x => by
    subst x
    have q3 := hL.symm.trans e
    injection q3 with q4
    exact ne (congrArg Obj.cls q4).symm
  refine ⟨?_, ?_, ?_, ?_, ?_⟩
  · rcases st.zz with q | ⟨T, f, a, b, c, q1, q2⟩
    · exact no q (show Value.type "zip" ≠ Value.type "list" by decide)
    · exact no q1 (show Value.type "zip" ≠ Value.type "list" by decide)
  · obtain ⟨a, b, c, q⟩ := st.to
    exact no q (show Value.type "tuple" ≠ Value.type "list" by decide)
  · obtain ⟨o, ho, hc, _⟩ := st.s1.1
    exact no ho (by rw [hc]; decide)
  · obtain ⟨o, ho, hc, _⟩ := st.s2.1
    exact no ho (by rw [hc]; decide)
  · obtain ⟨o, ho, hc, _⟩ := st.s3.1
    exact no ho (by rw [hc]; decide)

theorem z3_loop (S : ZipSep3 z TI TO i1 i2 i3 [i1, t1] [i2, t2] [i3, t3]) (hh : A.handled = none) (n1 : t1 ≠ i1) (n2 : t2 ≠ i2) (n3 : t3 ≠ i3) (e2 : X2.size = X1.size) (e3 : X3.size = X1.size) (hsz : X1.size ≤ 1000) {lo L : Addr} {R : Result → Shared → Prop} {res : Value} {s0 : Shared}
    (hlo : ∀ b, b = z ∨ b = TO ∨ b = i1 ∨ b = i2 ∨ b = i3 ∨ b = L → b < lo)
    (hR : ∀ h' tk as, Made3 h' lo X1 X2 X3 as → as.length = X1.size → LstAt h' L as →
      (∀ b o, b ≠ z → b ≠ TO → b ≠ i1 → b ≠ i2 → b ≠ i3 → b ≠ L → s0.heap.get? b = some o → h'.get? b = some o) → R (.ok (.ret res)) { s0 with heap := h', toks := tk }) :
    ∀ (k : Nat) (h : Heap) (tk : Nat) (as : List Addr), X1.size - as.length = k → as.length ≤ X1.size → Z3 h z TI TO i1 i2 i3 t1 t2 t3 X1 X2 X3 as.length → Made3 h lo X1 X2 X3 as → lo ≤ h.objs.size → LstAt h L as →
      (∀ b o, b ≠ z → b ≠ TO → b ≠ i1 → b ≠ i2 → b ≠ i3 → b ≠ L → s0.heap.get? b = some o → h.get? b = some o) →
      codeAny (model prog w) A (.builtin "list.extend.loop" ⟨[.ref L, .ref z, res], []⟩) R { s0 with heap := h, toks := tk } := by
  have low : ∀ {b : Addr}, lo ≤ b → b ≠ z ∧ b ≠ TO ∧ b ≠ i1 ∧ b ≠ i2 ∧ b ≠ i3 ∧ b ≠ L := fun {b} hb => by
    have q : ∀ c, (c = z ∨ c = TO ∨ c = i1 ∨ c = i2 ∨ c = i3 ∨ c = L) → b ≠ c := fun c hc x => by
      subst x
      exact absurd (hlo b hc) (Nat.not_lt.mpr hb)
    exact ⟨q z (by simp), q TO (by simp), q i1 (by simp), q i2 (by simp), q i3 (by simp), q L (by simp)⟩
  intro k
  induction k with
  | zero =>
    intro h tk as hk hle st mk hl hL kp
    refine codeAny_builtin F.entry_extend_loop ?_
    rw [Around.under_plainId F.plain_extend_loop _]
    show wpAny _ A.in1 (pyNext (.ref z) >>= _) _ _ _
    have e1 : as.length = X1.size := by omega
    obtain ⟨l0, l1, l2, l3, l4⟩ := st.apart hL
    refine wpAny_bind (z3_done (A := A.in1) (i := as.length) S hh n1 n2 n3 st e1 (by omega) (by omega) fun h' tk' kk => wpAny_pure ?_)
    obtain ⟨c, hL⟩ := hL
    refine hR h' tk' as ⟨mk.1, fun a ha => ⟨(mk.2.1 a ha).1, ?_⟩, fun j a ha => ?_⟩ e1 ⟨c, kk L _ l0 l1 l2 l3 l4 hL⟩ fun b o c0 c1 c2 c3 c4 c5 e => kk b o c0 c1 c2 c3 c4 (kp b o c0 c1 c2 c3 c4 c5 e)
    · obtain ⟨j, hj⟩ := List.getElem?_of_mem ha
      obtain ⟨x1, x2, x3, a1, a2, a3, a4⟩ := mk.2.2 j a hj
      obtain ⟨q0, q1, q2, q3, q4, _⟩ := low (mk.2.1 a ha).1
      exact Heap.lt_size (kk a _ q0 q1 q2 q3 q4 a4)
    · obtain ⟨x1, x2, x3, a1, a2, a3, a4⟩ := mk.2.2 j a ha
      obtain ⟨q0, q1, q2, q3, q4, _⟩ := low (mk.2.1 a (List.mem_of_getElem? ha)).1
      exact ⟨x1, x2, x3, a1, a2, a3, kk a _ q0 q1 q2 q3 q4 a4⟩
  | succ k ih =>
    intro h tk as hk hle st mk hl hL kp
    have hlt : as.length < X1.size := by omega
    refine codeAny_builtin F.entry_extend_loop ?_
    rw [Around.under_plainId F.plain_extend_loop _]
    show wpAny _ A.in1 (pyNext (.ref z) >>= _) _ _ _
    obtain ⟨l0, l1, l2, l3, l4⟩ := st.apart hL
    refine wpAny_bind (z3_item (A := A.in1) (i := as.length) S hh n1 n2 n3 st hlt (by omega) (by omega) fun x1 x2 x3 h' tk' y1 y2 y3 st' ht hz' kk => ?_)
    have ht : IsTupOf3 h' h.objs.size x1 x2 x3 := ht
    have hz' : h'.objs.size = h.objs.size + 1 := hz'
    obtain ⟨c, hL⟩ := hL
    have hL' := kk L _ l0 l1 l2 l3 l4 hL
    show wpAny _ A.in1 (updateSeq L (·.push (.ref h.objs.size)) >>= _) _ _ _
    refine wpAny_bind ?_
    have nS : h.objs.size ≠ L := Nat.ne_of_gt (Heap.lt_size hL)
    have up : ∀ {b : Addr} {o : Obj}, b ≠ L → h'.get? b = some o → (h'.update L (Obj.mapSeq (·.push (Value.ref h.objs.size)))).get? b = some o := fun {b o} hb e => (Heap.get?_update_other _ _ (Ne.symm hb)).trans e
    have eA : (as ++ [h.objs.size]).map Value.ref = as.map Value.ref ++ [Value.ref h.objs.size] := by simp
    have eL : (as ++ [h.objs.size]).length = as.length + 1 := by simp
    have usz : (h'.update L (Obj.mapSeq (·.push (Value.ref h.objs.size)))).objs.size = h'.objs.size := (Heap.SameBut.update ..).1
    refine wpAny_updateSeq hL' rfl (wpAny_pure ⟨plainId_quiet F.plain_extend_loop _, ih (h'.update L (Obj.mapSeq (·.push (Value.ref h.objs.size)))) tk' (as ++ [h.objs.size]) (by rw [eL]; omega) (by rw [eL]; omega) ?_ ⟨?_, fun a ha => ?_, fun j a ha => ?_⟩ (by rw [usz]; exact Nat.le_trans hl (by rw [hz']; exact Nat.le_succ _)) ?_ ?_⟩) ?_ ?_
    · rw [eL]
      exact st'.at_ (fun b o hb e => up hb e) hL'
    · refine List.nodup_append.mpr ⟨mk.1, by simp, fun a ha b hb => ?_⟩
      have hb : b = h.objs.size := by simpa using hb
      subst hb
      exact Nat.ne_of_lt (mk.2.1 a ha).2
    · rw [usz]
      rcases List.mem_append.mp ha with q | q
      · exact ⟨(mk.2.1 a q).1, Nat.lt_of_lt_of_le (mk.2.1 a q).2 (by rw [hz']; exact Nat.le_succ _)⟩
      · have hb : a = h.objs.size := by simpa using q
        subst hb
        exact ⟨hl, by rw [hz']; exact Nat.lt_succ_self _⟩
    · by_cases hj : j < as.length
      · rw [List.getElem?_append_left hj] at ha
        obtain ⟨x1, x2, x3, a1, a2, a3, a4⟩ := mk.2.2 j a ha
        obtain ⟨q0, q1, q2, q3, q4, q5⟩ := low (mk.2.1 a (List.mem_of_getElem? ha)).1
        exact ⟨x1, x2, x3, a1, a2, a3, up q5 (kk a _ q0 q1 q2 q3 q4 a4)⟩
      · have hj2 : j < (as ++ [h.objs.size]).length := (List.getElem?_eq_some_iff.mp ha).1
        have hj3 : j = as.length := by rw [eL] at hj2; omega
        subst hj3
        have hb : h.objs.size = a := by simpa using ha
        subst hb
        exact ⟨x1, x2, x3, y1, y2, y3, up nS ht⟩
    · refine ⟨(if ((as.map Value.ref).toArray.push (Value.ref h.objs.size)).size == (as.map Value.ref).toArray.size then c else c + 1), (Heap.get?_update_self _ hL' rfl).trans ?_⟩
      rw [eA, ← List.push_toArray]
      rfl
    · intro b o c0 c1 c2 c3 c4 c5 e
      exact up c5 (kk b o c0 c1 c2 c3 c4 (kp b o c0 c1 c2 c3 c4 c5 e))
    · simp
      exact Nat.le_trans (Nat.le_of_lt (Nat.lt_of_lt_of_le hlt hsz)) (by rw [sizeLine_eq]; decide)
    · simp
      exact Nat.le_trans (Nat.le_of_lt (Nat.lt_of_lt_of_le hlt hsz)) (by rw [sizeLine_eq]; decide)

theorem zip_no_len : typeLookup (.type "zip") "__len__" = pure none := by rw [typeLookup_type, builtinLookup_eq_fast]; kernel_rfl
theorem zip_no_hint : typeLookup (.type "zip") "__length_hint__" = pure none := by rw [typeLookup_type, builtinLookup_eq_fast]; kernel_rfl

/-- list(z), z the zip -/
theorem z3_list (S : ZipSep3 z TI TO i1 i2 i3 [i1, t1] [i2, t2] [i3, t3]) (hh : A.handled = none) (n1 : t1 ≠ i1) (n2 : t2 ≠ i2) (n3 : t3 ≠ i3) (e2 : X2.size = X1.size) (e3 : X3.size = X1.size) (hsz : X1.size ≤ 1000)
    (hz : IsZip s.heap z TI TO .none) (st : Z3 s.heap z TI TO i1 i2 i3 t1 t2 t3 X1 X2 X3 0) {Q : Value → Shared → Prop}
    (hQ : ∀ h' tk as, Made3 h' (s.heap.objs.size + 1) X1 X2 X3 as → as.length = X1.size → LstAt h' s.heap.objs.size as →
      (∀ b o, b ≠ z → b ≠ TO → b ≠ i1 → b ≠ i2 → b ≠ i3 → s.heap.get? b = some o → h'.get? b = some o) → Q (.ref s.heap.objs.size) { s with heap := h', toks := tk }) :
    wpAny (model prog w) A (call (.type "list") [.ref z]) Q E s := by
  refine callType_codes (Q₁ := fun obj s₁ => obj = .ref s.heap.objs.size ∧ s₁ = { s with heap := s.heap.push { cls := .type "list", data := .seq #[] } }) F.called_list (F.typeCall_list_1 _) F.entry_list_init
    (code_list_new _ ⟨rfl, rfl⟩) fun obj s₁ h₁ => ?_
  obtain ⟨rfl, rfl⟩ := h₁
  have hL : (s.heap.push { cls := .type "list", data := .seq #[] }).get? s.heap.objs.size = some { cls := .type "list", data := .seq #[] } := Heap.get?_push_size _ rfl
  have pu : ∀ {b : Addr} {o : Obj}, s.heap.get? b = some o → (s.heap.push { cls := .type "list", data := .seq #[] }).get? b = some o := fun e => Heap.get?_push_of_some _ e
  have ltz : ∀ {b : Addr} {o : Obj}, s.heap.get? b = some o → b < s.heap.objs.size := fun e => Heap.lt_size e
  refine ⟨⟨_, hL, rfl⟩, F.args_list_init_2 _ _, ?_⟩
  show wpAny _ _ (do let old ← Builtin.List.listItems (.ref s.heap.objs.size); Builtin.List.listUpdate (.ref s.heap.objs.size) (fun _ => #[]); letGo old.toList.reverse; Builtin.List.listExtendWith (.ref s.heap.objs.size) (.ref z) .none) _ _ _
  refine wpAny_bind ?_
  unfold Builtin.List.listItems
  refine wpAny_bind (wpAny_seqItems hL rfl (wpAny_pure ?_))
  show wpAny _ _ (updateSeq s.heap.objs.size (fun _ => #[]) >>= fun _ => letGo (#[] : Array Value).toList.reverse >>= fun _ => Builtin.List.listExtendWith (.ref s.heap.objs.size) (.ref z) .none) _ _ _
  refine wpAny_bind (wpAny_updateSeq hL rfl ?_)
  have hL2 := Heap.get?_update_self (Obj.mapSeq (fun _ => (#[] : Array Value))) hL rfl
  refine wpAny_bind (wpAny_letGo ?_)
  unfold Builtin.List.listExtendWith
  have nL : ∀ {b : Addr} {o : Obj}, s.heap.get? b = some o → b ≠ s.heap.objs.size := fun e => Nat.ne_of_lt (ltz e)
  have k2 : ∀ {b : Addr} {o : Obj}, s.heap.get? b = some o → ((s.heap.push { cls := .type "list", data := .seq #[] }).update s.heap.objs.size (Obj.mapSeq (fun _ => (#[] : Array Value)))).get? b = some o := fun {b o} e => (Heap.get?_update_other _ _ (Ne.symm (nL e))).trans (pu e)
  refine wpAny_bind (wpAny_typeOf (T := "zip") ⟨_, k2 hz, rfl⟩ ?_)
  have h1 : Builtin.List.listSameRef (.ref s.heap.objs.size) (.ref z) = false := by
    have := nL hz
    simp [Builtin.List.listSameRef, Ne.symm this]
  have h2 : (Value.type "zip" == Value.type "list") = false := by decide
  have h3 : (Value.type "zip" == Value.type "tuple") = false := by decide
  simp only [h1, h2, h3, Bool.or_false, Bool.false_eq_true, if_false]
  refine wpAny_bind (wpAny_pyIter_zip (k2 hz) ?_)
  refine wpAny_bind (wpAny_holding ?_)
  unfold Builtin.List.listLengthHint
  refine wpAny_bind (wpAny_specialOf (T := "zip") ⟨_, k2 hz, rfl⟩ zip_no_len ?_)
  show wpAny _ _ (specialOf (Value.ref z) (Str.ofString "__length_hint__") >>= _) _ _ _
  refine wpAny_bind (wpAny_specialOf (T := "zip") ⟨_, k2 hz, rfl⟩ zip_no_hint ?_)
  refine wpAny_pure ?_
  show wpAny _ _ (rule "list.extend.makes-room" >>= fun _ => Builtin.List.listTouch (.ref s.heap.objs.size) >>= fun _ => again (.builtin "list.extend.loop" ⟨[.ref s.heap.objs.size, .ref z, .none], []⟩)) _ _ _
  refine wpAny_bind (wpAny_rule ?_)
  refine wpAny_bind ?_
  show wpAny _ _ (updateSeq s.heap.objs.size (·.push .none) >>= fun _ => updateSeq s.heap.objs.size (·.pop)) _ _ _
  refine wpAny_bind (wpAny_updateSeq hL2 rfl ?_)
  have hL3 := Heap.get?_update_self (Obj.mapSeq (·.push Value.none)) hL2 rfl
  refine wpAny_updateSeq (hz := by seq_fits) hL3 rfl ?_
  have hL4 := Heap.get?_update_self (Obj.mapSeq (·.pop)) hL3 rfl
  have k4 : ∀ {b : Addr} {o : Obj}, b ≠ s.heap.objs.size → s.heap.get? b = some o →
      (((((s.heap.push { cls := .type "list", data := .seq #[] }).update s.heap.objs.size (Obj.mapSeq (fun _ => (#[] : Array Value)))).update s.heap.objs.size (Obj.mapSeq (·.push Value.none))).update s.heap.objs.size (Obj.mapSeq (·.pop)))).get? b = some o :=
    fun {b o} hb e => (Heap.get?_update_other _ _ (Ne.symm hb)).trans ((Heap.get?_update_other _ _ (Ne.symm hb)).trans (k2 e))
  have sz4 : (((((s.heap.push { cls := .type "list", data := .seq #[] }).update s.heap.objs.size (Obj.mapSeq (fun _ => (#[] : Array Value)))).update s.heap.objs.size (Obj.mapSeq (·.push Value.none))).update s.heap.objs.size (Obj.mapSeq (·.pop)))).objs.size = s.heap.objs.size + 1 := by
    rw [(Heap.SameBut.update ..).1, (Heap.SameBut.update ..).1, (Heap.SameBut.update ..).1, Heap.size_push]
  obtain ⟨zz, ti, ⟨u1, u2, u3, hto⟩, s1, s2, s3⟩ := id st
  have lit : ∀ {a t : Addr} {j : Nat}, s.heap.IsTupleIter a t j → a < s.heap.objs.size := fun ⟨o, e, _, _⟩ => ltz e
  have st4 : Z3 (((((s.heap.push { cls := .type "list", data := .seq #[] }).update s.heap.objs.size (Obj.mapSeq (fun _ => (#[] : Array Value)))).update s.heap.objs.size (Obj.mapSeq (·.push Value.none))).update s.heap.objs.size (Obj.mapSeq (·.pop)))) z TI TO i1 i2 i3 t1 t2 t3 X1 X2 X3 0 := by
    have ni : ∀ {a t : Addr} {j : Nat}, s.heap.IsTupleIter a t j → (((((s.heap.push { cls := .type "list", data := .seq #[] }).update s.heap.objs.size (Obj.mapSeq (fun _ => (#[] : Array Value)))).update s.heap.objs.size (Obj.mapSeq (·.push Value.none))).update s.heap.objs.size (Obj.mapSeq (·.pop)))).IsTupleIter a t j := fun {a t j} ⟨o, e, c, d⟩ => ⟨o, k4 (nL e) e, c, d⟩
    have nt : ∀ {a : Addr} {ys : Array Value}, s.heap.IsTuple a ys → (((((s.heap.push { cls := .type "list", data := .seq #[] }).update s.heap.objs.size (Obj.mapSeq (fun _ => (#[] : Array Value)))).update s.heap.objs.size (Obj.mapSeq (·.push Value.none))).update s.heap.objs.size (Obj.mapSeq (·.pop)))).IsTuple a ys := fun {a ys} ⟨o, e, c, d⟩ => ⟨o, k4 (nL e) e, c, d⟩
    exact ⟨.inl (k4 (nL hz) hz), k4 (nL ti) ti, ⟨_, _, _, k4 (nL hto) hto⟩, ⟨ni s1.1, nt s1.2⟩, ⟨ni s2.1, nt s2.2⟩, ⟨ni s3.1, nt s3.2⟩⟩
  refine wpAny_pure ⟨plainId_quiet F.plain_extend_loop _, z3_loop (A := A.in1) (lo := s.heap.objs.size + 1) (s0 := s) (X1 := X1) S hh n1 n2 n3 e2 e3 hsz (fun b hb => ?_) (fun h' tk as mk hl hLs kk => ?_) X1.size _ s.toks [] (by simp) (Nat.zero_le _) st4 ⟨List.nodup_nil, fun a ha => (nomatch ha), fun j a ha => by simp at ha⟩ (by rw [sz4]; exact Nat.le_refl _) ⟨_, hL4⟩ (fun b o _ _ _ _ _ c5 e => k4 c5 e)⟩
  · rcases hb with q | q | q | q | q | q
    · rw [q]; exact Nat.lt_succ_of_lt (ltz hz)
    · rw [q]; exact Nat.lt_succ_of_lt (ltz hto)
    · rw [q]; exact Nat.lt_succ_of_lt (lit s1.1)
    · rw [q]; exact Nat.lt_succ_of_lt (lit s2.1)
    · rw [q]; exact Nat.lt_succ_of_lt (lit s3.1)
    · rw [q]; exact Nat.lt_succ_self _
  · exact ⟨rfl, hQ h' tk as mk hl hLs fun b o c0 c1 c2 c3 c4 e => kk b o c0 c1 c2 c3 c4 (nL e) e⟩
end
end B7
namespace B7
open PySem PySem.Spec PyProof.Rows L2

/-! ### many new objects at once -/
def ov (N H : Hp) : Hp := fun b => match N b with
  | some o => some o
  | none => H b
theorem ov_new {N H : Hp} {b : Addr} {o : HO} (h : N b = some o) : ov N H b = some o := by unfold ov; rw [h]
theorem ov_old {N H : Hp} {b : Addr} (h : N b = none) : ov N H b = H b := by unfold ov; rw [h]
theorem inv_many {X : Cx} {pins : List (Addr × Obj)} {σ : L2.St} {H N : Hp} {s : Shared} {h' : Heap} {t' : Nat} (I : Inv X pins σ H s) (k : ∀ b u, s.heap.get? b = some u → h'.get? b = some u) (hN : ∀ b o, N b = some o → s.heap.objs.size ≤ b)
    (new : ∀ b o, N b = some o → ObjOk X.prog X.w (ov N H) h' b o) : Inv X pins σ (ov N H) { s with heap := h', toks := t' } := by
  have nn : ∀ b u, s.heap.get? b = some u → N b = none := fun b u e => by
    cases q : N b with
    | none => rfl
    | some o => exact absurd (Nat.lt_of_lt_of_le (Heap.lt_size e) (hN b o q)) (Nat.lt_irrefl _)
  have nt : ∀ b u, H b = some u → N b = none := fun b u e => by
    cases q : N b with
    | none => rfl
    | some o => exact absurd (Nat.lt_of_lt_of_le (I.hok.lt e) (hN b o q)) (Nat.lt_irrefl _)
  refine I.un (t' := t') ⟨fun b o e _ _ _ => k b o e, fun b o e _ _ _ => ⟨o.slots, k b o e⟩, fun b o e n _ => by rw [ov_old (nn b o e)]; exact n, fun b o e _ => ⟨o, k b o e⟩, fun b xs e => by rw [ov_old (nt b _ e)]; exact e, fun b o u e => by rw [ov_old (nt b _ e)]; exact e,
    fun b ps e => ⟨#[], by rw [ov_old (nt b _ e), e]; simp⟩⟩ fun b u e => ?_
  cases q : N b with
  | some o =>
    rw [ov_new q] at e
    cases e
    exact new b _ q
  | none =>
    rw [ov_old q] at e
    exact (I.hok b u e).stay (fun c v _ z => k c v z) (fun c z => by rw [ov_old (nt c _ z)]; exact z) fun c xs z => by rw [ov_old (nt c _ z)]; exact z

/-! ### list(zip(x, y, z)) of tuples -/
def tZip3 (K : PySem.W.Frag) (ta : TA) : TE := fun σ H Q => ta σ H fun vs H1 => ∃ (a b c : Addr) (xs ys zs : List V), vs = [.ref a, .ref b, .ref c] ∧ SqT K H1 a xs ∧ SqT K H1 b ys ∧ SqT K H1 c zs ∧ ys.length = xs.length ∧ zs.length = xs.length ∧ xs.length ≤ 1000 ∧
  ∀ (L : Addr) (as : List Addr) (H2 : Hp), as.length = xs.length → H1 L = none → H2 L = some (.lst (as.map V.ref)) → (∀ b o, H1 b = some o → H2 b = some o) →
    (∀ (j : Nat) (p : Addr), as[j]? = some p → H1 p = none ∧ ∃ x y z, xs[j]? = some x ∧ ys[j]? = some y ∧ zs[j]? = some z ∧ H2 p = some (.tup [x, y, z])) → Q (.ref L) H2
theorem paired_refs : ∀ (as : List Addr), Vals (as.map V.ref) (as.map Value.ref)
  | [] => .nil
  | _ :: as => .cons rfl (paired_refs as)
theorem pe_zip3 {X : Cx} {e1 e2 e3 : Expr} {ta : TA} {p p2 pos pos2 : Pos} (hc : X.calm = true) (hg : Gl X "list") (hm : X.mg "list" = none) (hg2 : Gl X "zip") (hm2 : X.mg "zip" = none) (ha : PA X [e1, e2, e3] ta)
    (he : starEach [e1, e2, e3] X.env = (false, eval e1 X.env) :: starEach [e2, e3] X.env := by rfl) (hpl : (backTo pos2 (starEach [e2, e3] X.env)).any (·.1) = false := by rfl)
    (hs2 : starEach [.Call (.Name "zip" p2) [e1, e2, e3] [] pos2] X.env = (false, eval (.Call (.Name "zip" p2) [e1, e2, e3] [] pos2) X.env) :: starEach [] X.env := by rfl) :
    PE X (.Call (.Name "list" p) [.Call (.Name "zip" p2) [e1, e2, e3] [] pos2] [] pos) (tZip3 X.K ta) := by
  refine ⟨fun pins s σ H Q I h => ?_⟩
  refine Call_ (ld_blt I hg hm PyProof.Rows.boot_list (PyProof.Rows.callWith_type1 (args_cons (Call_ (ld_blt I hg2 hm2 PyProof.Rows.boot_zip (PyProof.Rows.callWith_type1 (thn (ha.run pos2 pins s σ H _ I h) fun us s1 hv => ?_) he hpl))) hs2) hs2 rfl))
  obtain ⟨vs, H1, I1, r1, a, b, c, xs, ys, zs, ev, q1, q2, q3, l2, l3, lz, q⟩ := hv
  subst ev
  cases r1 with
  | cons ra r1 => cases r1 with
    | cons rb r1 => cases r1 with
      | cons rc r1 =>
        cases r1
        cases ra
        cases rb
        cases rc
        obtain ⟨A1, v1, p1, z1⟩ := I1.tuple q1
        obtain ⟨A2, v2, p2', z2⟩ := I1.tuple q2
        obtain ⟨A3, v3, p3, z3⟩ := I1.tuple q3
        have y1 : A1.length = xs.length := v1.length.symm
        have y2 : A2.length = xs.length := v2.length.symm.trans l2
        have y3 : A3.length = xs.length := v3.length.symm.trans l3
        refine zip_begins3 (begins_tuple a A1.toArray) (begins_tuple b A2.toArray) (begins_tuple c A3.toArray) p1 p2' p3 fun h2 hz hti hto g1 g2 g3 sz kk => args_nil ?_
        have lt : ∀ {x : Addr} {o : Obj}, s1.heap.get? x = some o → x < s1.heap.objs.size := fun e => Heap.lt_size e
        have la : a < s1.heap.objs.size := by obtain ⟨o, e, _⟩ := p1; exact lt e
        have lb : b < s1.heap.objs.size := by obtain ⟨o, e, _⟩ := p2'; exact lt e
        have lc : c < s1.heap.objs.size := by obtain ⟨o, e, _⟩ := p3; exact lt e
        have S : ZipSep3 (s1.heap.objs.size + 5) (s1.heap.objs.size + 3) (s1.heap.objs.size + 4) s1.heap.objs.size (s1.heap.objs.size + 1) (s1.heap.objs.size + 2) [s1.heap.objs.size, a] [s1.heap.objs.size + 1, b] [s1.heap.objs.size + 2, c] :=
          zip_sep3 (fp1 := [a]) (fp2 := [b]) (fp3 := [c]) (fun x hx => by simp at hx; rw [hx]; exact la) (fun x hx => by simp at hx; rw [hx]; exact lb) (fun x hx => by simp at hx; rw [hx]; exact lc)
        have tk : ∀ {t : Addr} {ys : Array Value}, s1.heap.IsTuple t ys → h2.IsTuple t ys := fun x => x.at fun o e => kk _ _ e
        have st : Z3 h2 (s1.heap.objs.size + 5) (s1.heap.objs.size + 3) (s1.heap.objs.size + 4) s1.heap.objs.size (s1.heap.objs.size + 1) (s1.heap.objs.size + 2) a b c A1.toArray A2.toArray A3.toArray 0 :=
          ⟨.inl hz, hti, ⟨_, _, _, hto⟩, ⟨⟨_, g1, rfl, rfl⟩, tk p1⟩, ⟨⟨_, g2, rfl, rfl⟩, tk p2'⟩, ⟨⟨_, g3, rfl, rfl⟩, tk p3⟩⟩
        refine z3_list (s := { s1 with heap := h2 }) S (I1.ok.hd hc) (Nat.ne_of_lt la) (Nat.ne_of_lt (Nat.lt_succ_of_lt lb)) (Nat.ne_of_lt (Nat.lt_succ_of_lt (Nat.lt_succ_of_lt lc))) (by simp [y1, y2]) (by simp [y1, y3]) (by simp [y1]; exact lz) hz st fun h' t' as mk hl hL kp => ?_
        have e2 : ({ s1 with heap := h2 } : Shared).heap.objs.size = s1.heap.objs.size + 6 := sz
        have hl : as.length = A1.length := by simpa using hl
        have mk : Made3 h' (h2.objs.size + 1) A1.toArray A2.toArray A3.toArray as := mk
        have hL : LstAt h' h2.objs.size as := hL
        have old : ∀ b o, s1.heap.get? b = some o → h'.get? b = some o := fun b o e => by
          have hb := lt e
          have up : ∀ k, b ≠ s1.heap.objs.size + k := fun k x => by
            rw [x] at hb
            exact absurd hb (Nat.not_lt.mpr (Nat.le_add_right _ _))
          exact kp b o (up 5) (up 4) (up 0) (up 1) (up 2) (kk b o e)
        obtain ⟨nd, lo, at_⟩ := mk
        -- the new part
        let pos_ : Addr → Option Nat := fun p => as.findIdx? (· == p)
        let N : Hp := fun p => if p = h2.objs.size then some (.lst (as.map V.ref)) else match pos_ p with
          | some j => some (.tup [xs.getD j .non, ys.getD j .non, zs.getD j .non])
          | none => none
        have hNL : N h2.objs.size = some (.lst (as.map V.ref)) := if_pos rfl
        have posAt : ∀ (j : Nat) (p : Addr), as[j]? = some p → pos_ p = some j := fun j p hj => by
          have hlt := (List.getElem?_eq_some_iff.mp hj).1
          have hpe := (List.getElem?_eq_some_iff.mp hj).2
          refine List.findIdx?_eq_some_iff_getElem.mpr ⟨hlt, by simp [hpe], fun k hk => ?_⟩
          have : as[k] ≠ p := fun x => by
            have := (List.getElem_inj nd).mp (x.trans hpe.symm)
            omega
          simpa using this
        have posInv : ∀ (j : Nat) (p : Addr), pos_ p = some j → as[j]? = some p := fun j p hj => by
          obtain ⟨h1, h2, _⟩ := List.findIdx?_eq_some_iff_getElem.mp hj
          rw [List.getElem?_eq_getElem h1]
          exact congrArg some (by simpa using h2)
        have nL : ∀ {p : Addr}, p ∈ as → p ≠ h2.objs.size := fun {p} hp x => by
          have := (lo p hp).1
          rw [x] at this
          exact absurd this (Nat.not_le.mpr (Nat.lt_succ_self _))
        have hNt : ∀ (j : Nat) (p : Addr), as[j]? = some p → N p = some (.tup [xs.getD j .non, ys.getD j .non, zs.getD j .non]) := fun j p hj => by
          show (if p = h2.objs.size then _ else _) = _
          rw [if_neg (nL (List.mem_of_getElem? hj)), posAt j p hj]
        have hNs : ∀ p o, N p = some o → (p = h2.objs.size ∧ o = .lst (as.map V.ref)) ∨ ∃ j, as[j]? = some p ∧ o = .tup [xs.getD j .non, ys.getD j .non, zs.getD j .non] := fun p o e => by
          by_cases hp : p = h2.objs.size
          · subst hp
            rw [hNL] at e
            cases e
            exact .inl ⟨rfl, rfl⟩
          · have e : (if p = h2.objs.size then some (HO.lst (as.map V.ref)) else match pos_ p with
              | some j => some (HO.tup [xs.getD j .non, ys.getD j .non, zs.getD j .non])
              | none => none) = some o := e
            rw [if_neg hp] at e
            cases hq : pos_ p with
            | none => rw [hq] at e; cases e
            | some j =>
              rw [hq] at e
              cases e
              exact .inr ⟨j, posInv j p hq, rfl⟩
        have hNge : ∀ p o, N p = some o → s1.heap.objs.size ≤ p := fun p o e => by
          rcases hNs p o e with ⟨h1, _⟩ | ⟨j, h1, _⟩
          · rw [h1, sz]; exact Nat.le_add_right _ _
          · exact Nat.le_trans (by rw [sz]; exact Nat.le_add_right _ 7) (lo p (List.mem_of_getElem? h1)).1
        have vat : ∀ {vs : List V} {us : List Value} {j : Nat} {u : Value}, Vals vs us → us.toArray[j]? = some u → RelV (vs.getD j .non) u := fun {vs us j u} r e => by
          have e : us[j]? = some u := by simpa using e
          have hj : j < vs.length := by rw [r.length]; exact (List.getElem?_eq_some_iff.mp e).1
          obtain ⟨u', e1, e2⟩ := r.get (List.getElem?_eq_getElem hj)
          rw [e] at e1
          cases e1
          rw [List.getD_eq_getElem?_getD, List.getElem?_eq_getElem hj]
          exact e2
        have J : Inv X pins σ (ov N H1) { s1 with heap := h', toks := t' } := inv_many I1 old hNge fun p o e => by
          rcases hNs p o e with ⟨h1, h2'⟩ | ⟨j, h1, h2'⟩
          · subst h1 h2'
            obtain ⟨cc, hL⟩ := hL
            exact ⟨by rw [List.length_map, hl, y1, sizeLine_eq]; omega, as.map Value.ref, cc, paired_refs as, hL⟩
          · subst h2'
            obtain ⟨x1, x2, x3, b1, b2, b3, b4⟩ := at_ j p h1
            exact ⟨by show 3 ≤ sizeLine; rw [sizeLine_eq]; decide, [x1, x2, x3], .cons (vat v1 b1) (.cons (vat v2 b2) (.cons (vat v3 b3) .nil)), ⟨_, b4, rfl, _, rfl⟩⟩
        have nH : ∀ {p : Addr}, s1.heap.objs.size ≤ p → H1 p = none := fun hp => I1.hok.fresh hp
        refine ⟨.ref h2.objs.size, ov N H1, J, rfl, q h2.objs.size as (ov N H1) (hl.trans y1) (nH (by rw [sz]; exact Nat.le_add_right _ _)) (ov_new hNL) (fun b o e => ?_) fun j p hj => ?_⟩
        · cases hq : N b with
          | none => rw [ov_old hq]; exact e
          | some o' =>
            rw [nH (hNge b o' hq)] at e
            cases e
        · have hjl : j < xs.length := by rw [← y1, ← hl]; exact (List.getElem?_eq_some_iff.mp hj).1
          refine ⟨nH (hNge p _ (hNt j p hj)), xs[j], ys[j]'(by omega), zs[j]'(by omega), List.getElem?_eq_getElem _, List.getElem?_eq_getElem _, List.getElem?_eq_getElem _, ?_⟩
          rw [ov_new (hNt j p hj)]
          simp only [List.getD_eq_getElem?_getD]
          rw [List.getElem?_eq_getElem hjl, List.getElem?_eq_getElem (show j < ys.length by omega), List.getElem?_eq_getElem (show j < zs.length by omega)]
          rfl
end B7
namespace B7
open PySem PySem.Spec PyProof.Rows L2 ItX

section
variable {X : Cx}
/-! ### text * 0, text * 1 -/
def rMulS : R2 := fun x y H Q => ∃ (z : Str) (n : Int), x = .str z ∧ y = .int n ∧ (n = 0 ∨ n = 1) ∧ Q (.str (if n = 0 then Str.empty else z)) H
theorem op_mulS : OpR X (binaryOp .Mult) rMulS := by
  intro pins s σ H x y v u Q I rx ry h
  obtain ⟨z, n, rfl, rfl, hn, q⟩ := h
  obtain ⟨t, rfl⟩ := rx
  obtain ⟨t', rfl⟩ := ry
  rcases hn with rfl | rfl
  · exact PySem.P.mul_str_none (by decide) (by decide) ⟨.str _, H, I.tok _, ⟨_, rfl⟩, q⟩
  · refine PySem.P.mul_str (by decide) (fun _ e => by simp at e) (fun _ e => by simp at e) ?_
    rw [if_neg (by decide), if_pos (by simp)]
    exact ⟨.str z, H, I, ⟨_, rfl⟩, q⟩

/-! ### len(o), o of a class with its own __len__ -/
theorem inst_of {pins : List (Addr × Obj)} {σ : L2.St} {H : Hp} {s : Shared} {a C dx : Addr} {fs : List (Str × V)} (I : Inv X pins σ H s) (ha : H a = some (.ins C dx fs)) : ∃ ox od, PySem.W.InstAt s.heap a ox C od := by
  obtain ⟨mA, J, _⟩ := ins_get I.hok ha
  obtain ⟨od, J, _⟩ := J.look
  exact ⟨_, _, J⟩
def rLenO (C : Addr) (sp : Sp) : List V → Hp → VK → Prop := fun xs H Q => ∃ (a dx : Addr) (fs : List (Str × V)), xs = [.ref a] ∧ H a = some (.ins C dx fs) ∧ sp [.ref a] H (fun v H' => ∃ n : Nat, v = .int n ∧ n ≤ sizeLine ∧ Q (.int n) H') E0
theorem call_lenO {C f : Addr} {fd : FuncData} {sp : Sp} {k : Nat} (hl : PySem.W.findIn X.K (.ref C) "__len__" = some (some (.ref f))) (hf : PySem.W.isFn X.K (.ref f) = true) (F : FnOk X.prog X.w X.K X.mg X.base CX0 k f fd ["self"] sp) (hb : Binds X.K fd ["self"] [])
    (hr : Room (k + 1) X.A) : CallR X (.builtin "len") (rLenO C sp) := by
  intro pins s σ H xs us Q I r h
  obtain ⟨a, dx, fs, rfl, ha, hsp⟩ := h
  obtain ⟨u, rfl, ru⟩ := vals1 r
  cases ru
  obtain ⟨ox, od, J⟩ := inst_of I ha
  obtain ⟨m, hF⟩ := I.fr
  refine PySem.W.len_K hF I.ok.mod.kin J hl hf ?_
  have hb1 := hb s [.ref a] I.kIn rfl
  rw [List.append_nil] at hb1
  refine wpAny_call (codeAny_mono (F.run X.A.in1 X.stack s H ⟨[.ref a], []⟩ [.ref a] [.ref a] _ E0 hr.in1 I.env0.in1 hb1 (.cons rfl .nil) hsp) fun rs s' hq => ?_)
  cases rs with
  | error e => exact hq.elim
  | ok fl =>
    cases fl with
    | next => exact False.elim hq
    | brk => exact False.elim hq
    | cont => exact False.elim hq
    | ret u =>
      obtain ⟨v, H', I', rv, n, ev, hn, q⟩ := I.after hq
      subst ev
      obtain ⟨t, rfl⟩ := rv
      refine ⟨⟨by omega, by rw [sizeLine_eq] at hn; omega⟩, .int n, H', I'.tok _, ⟨_, rfl⟩, q⟩

/-! ### a walk over an object whose __iter__ says: return iter(self.triples) -/
theorem dropNew {H : Hp} {it : Addr} {o : HO} (h : H it = none) : dropH (upd H it o) it = H := by
  funext b
  by_cases hb : b = it
  · rw [hb, dropH_same, h]
  · rw [dropH_ne hb, upd_ne hb]
theorem itlF0 {K : PySem.W.Frag} {a : Addr} : ItlF K a 0 = Itl K a := by
  unfold ItlF
  simp only [Nat.zero_add]
def iTri (K : PySem.W.Frag) (C : Addr) (te : TE) : TI := fun σ H R => te σ H fun x H1 => ∃ (a dx l : Addr) (fs : List (Str × V)) (xs : List V), x = .ref a ∧ H1 a = some (.ins C dx fs) ∧ fs.lookup ("triples" : Str) = some (.ref l) ∧ SqL K H1 l xs ∧ R (Itl K l) H1
theorem pi_tri {tg e : Expr} {te : TE} {C f : Addr} {fd : FuncData} {st : Stmt} (he : PE X e te) (F : Fun X.K "__iter__" "SquareTable.__iter__" st f fd) (hst : defBody st = [.Return (some (.Call (.Name "iter" p1) [.Attribute (.Name "self" p2) "triples" p3] [] p4)) p5])
    (S : FnScope ["self"] ["self"] (defScope st)) (gi : (defScope st).names.lookup ("iter" : Str) = some .globalImplicit) (hb : Binds X.K fd ["self"] []) (c : Cls X.K C) (na : NoAttr X.K C "triples") (hi : PySem.W.findIn X.K (.ref C) "__iter__" = some (some (.ref f))) (hf : PySem.W.isFn X.K (.ref f) = true)
    (hm : X.mg "iter" = none) (hr : Room 1 X.A) : PI X tg e (iTri X.K C te) := by
  refine ⟨fun pins s σ H R I h => thn (he.run pins s σ H _ I h) fun v s1 hv => ?_⟩
  obtain ⟨x, H1, I1, r1, a, dx, l, fs, xs, ex, ha, hl, hq, q⟩ := hv
  subst ex
  obtain rfl : v = Value.ref a := r1
  obtain ⟨ox, od, J⟩ := inst_of I1 ha
  obtain ⟨m, hF⟩ := I1.fr
  refine PySem.W.owit_iter hF I1.ok.mod.kin J hi hf ?_
  obtain ⟨oc, od2, kV, doc, pm, an, cdv, ct, osl, efd, lk, hcd⟩ := F.ex
  subst efd
  have hb1 := hb s1 [.ref a] I1.kIn rfl
  rw [List.append_nil] at hb1
  refine wpAny_call (codeAny_mono (LamX.run_ofS (CX := CX0) (Q := fun v H2 => ∃ it, v = .ref it ∧ H1 it = none ∧ s1.heap.objs.size ≤ it ∧ H2 = upd H1 it (ItO l it 0)) (E := E0) (N := ["self"]) (vs := [.ref a]) lk hcd S hr I1.env0 hb1 (.cons rfl .nil) rfl fun hr0 => ?_) fun rs s2 hq2 => ?_)
  · rw [hst]
    refine ⟨_, pss_one (ps_ret (pe_callB call_iterN gi hm PyProof.Rows.boot_iter (pa_cons (pe_fld (pv 0 (hv := S.par "self" (List.mem_singleton.mpr rfl) |>.elim .inl fun z => .inr (.inl z))) rfl) pa_nil))), ?_⟩
    exact ⟨.ref a, rfl, a, C, dx, fs, .ref l, rfl, ha, c, na, hl, l, xs, rfl, hq, fun it hn hge => ⟨it, rfl, hn, hge, rfl⟩⟩
  · cases rs with
    | error e => exact hq2.elim
    | ok fl =>
      cases fl with
      | next => exact False.elim hq2
      | brk => exact False.elim hq2
      | cont => exact False.elim hq2
      | ret u =>
        obtain ⟨v, H2, I2, rv, it, ev, hn, hge, eH⟩ := I1.after hq2
        subst ev eH
        cases rv
        have eo := itO_get I2 upd_same
        have st : s2.heap.IsListIter it l (0 + 0) := ⟨_, eo, rfl, rfl⟩
        unfold PySem.W.OwitIt
        refine wpAny_specialOf (T := "list_iterator") ⟨_, eo, rfl⟩ slot_listiter_next.lookup ?_
        have hi' : (upd H1 it (ItO l it 0)) it = some (ItO l it 0) := upd_same
        have D := inv_drop I2 hi'
        have fp := inv_fp I2 hi' (Nat.le_trans I1.sz hge)
        rw [dropNew hn] at D fp
        rw [← itlF0] at q
        refine ⟨it, [it], _, _, H1, rfl, D, turn_listF l it 0, st, fun b hb => ?_, q⟩
        have e : b = it := by simpa using hb
        rw [e]
        exact fp
end
end B7
namespace B7
open PySem PySem.Spec PyProof.Rows L2

/-! ### the law's own call: nothing is being shown there -/
section
variable {P : Program} {w : World} {K : PySem.W.Frag} {mg mb : Str → Option Value} {k : Nat} {fa a : Addr} {fd : FuncData} {x : Str} {sp : Sp} {s₁ : Shared} {vs : List Value} {ns : List Int}
abbrev EndG (s₁ : Shared) : Result → Shared → Prop := fun r s' => r = .ok (.ret (.bool true)) ∧ OldK s₁.heap s'.heap ∧ s'.os = s₁.os ∧ AllBare s'.gens
/-- from an abstract heap in which nothing is tracked but, it may be, the script -/
theorem law_core (KX : K.In s₁.heap) (hns : s₁.heap.Ns mainGlobals mg) (hb : s₁.heap.Ns builtinsNs mb) (hbb : ∀ y : Str, y ≠ "__name__" → mb y = bootBuiltins y) (hlim : s₁.heap.NoLimit) (hg : s₁.gens = #[])
    (ha : s₁.heap.get? a = some { cls := .type "list", data := .seq vs.toArray }) (hr : Room k callerA) (F : ∀ base : Heap, K.In base → base.Ns mainGlobals mg → FnG P w K mg base k fa fd [x] sp)
    (hbind : ∀ (s : Shared) (u : Value), BindsTo s fd ⟨[u], []⟩ [(x, u)]) {H : Hp} (hO : Only H) (hsp : sp [.ref a] H (fun v _ => v = .bl true) E0) (hok : HOk P w H s₁.heap) (hA : ∀ b, H b ≠ none → b = a) (hK : H a ≠ none → K.lookup a = none) :
    codeAny (model P w) callerA (.call (.ref fa) ⟨[.ref a], []⟩) (EndG s₁) s₁ := by
  -- only the script's list is hidden: what is no list stays
  have shown : ∀ {b : Addr} {o : Obj}, s₁.heap.get? b = some o → (∀ ys n, o.data = .seq ys n → False) → H b = none := fun {b o} e d => by
    cases q : H b with
    | none => rfl
    | some u =>
      have e' : b = a := hA b (by rw [q]; simp)
      rw [e', ha] at e
      cases e
      exact (d _ _ rfl).elim
  have nsB : ∀ {b : Addr} {m : Str → Option Value}, s₁.heap.Ns b m → (hidT s₁.heap H).Ns b m := fun {b m} z => by
    obtain ⟨o, es, ep, e, d, r⟩ := z
    exact ⟨o, es, ep, hidT_get e (shown e fun ys n e2 => by rw [d] at e2; cases e2), d, r⟩
  have kB : K.In (hidT s₁.heap H) := fun b o e => by
    refine hidT_get (KX b o e) ?_
    cases q : H b with
    | none => rfl
    | some u =>
      have e' : b = a := hA b (by rw [q]; simp)
      rw [e'] at e q
      rw [hK (by rw [q]; simp)] at e
      cases e
  obtain ⟨mc, c1, c2⟩ := hlim
  have e0 : Env0 P w K mg (hidT s₁.heap H) callerA [] s₁ H :=
    ⟨rfl, ⟨kB, nsB hns, ⟨mb, nsB hb, hbb⟩, ⟨mc, nsB c1, c2⟩⟩, fun b o e => of_hidT e, Nat.le_of_eq (hidT_size _ _), trivial, fun b z => absurd (show b ∈ ([] : List Addr) from z) (by simp), hok, .of_eq hg⟩
  refine codeAny_mono ((F _ kB (nsB hns)).run callerA [] s₁ H ⟨[.ref a], []⟩ [.ref a] [.ref a] _ E0 rfl hr e0 (hbind s₁ (.ref a)) (.cons rfl .nil) hsp) fun r s' z => ?_
  cases r with
  | error e => exact (show False from z).elim
  | ok fl =>
    cases fl with
    | next => exact False.elim z
    | brk => exact False.elim z
    | cont => exact False.elim z
    | ret u =>
      obtain ⟨v, H', os, bare, un, hok', rv, ev⟩ := z
      have ev : v = .bl true := ev
      subst ev
      obtain rfl : u = Value.bool true := rv
      refine ⟨rfl, OldK.of_keep fun b o e => ?_, os, bare⟩
      rcases hO b with n | ⟨ob, xs, n⟩
      · exact un.keep b o e n (fun q => absurd (show b ∈ ([] : List Addr) from q) (by simp)) (by simp)
      · have e1 := (hok b _ n).1
        rw [e] at e1
        cases e1
        exact (hok' b _ (un.frzs b o _ n)).1
theorem law_callG (KX : K.In s₁.heap) (hns : s₁.heap.Ns mainGlobals mg) (hb : s₁.heap.Ns builtinsNs mb) (hbb : ∀ y : Str, y ≠ "__name__" → mb y = bootBuiltins y) (hlim : s₁.heap.NoLimit) (hg : s₁.gens = #[])
    (ha : s₁.heap.get? a = some { cls := .type "list", data := .seq vs.toArray }) (hi : IntsAre vs ns) (hl : ns.length ≤ sizeLine) (hr : Room k callerA) (F : ∀ base : Heap, K.In base → base.Ns mainGlobals mg → FnG P w K mg base k fa fd [x] sp)
    (hbind : ∀ (s : Shared) (u : Value), BindsTo s fd ⟨[u], []⟩ [(x, u)]) (hsp : ∀ H : Hp, Only H → SqL K H a (ns.map V.int) → sp [.ref a] H (fun v _ => v = .bl true) E0) :
    codeAny (model P w) callerA (.call (.ref fa) ⟨[.ref a], []⟩) (EndG s₁) s₁ := by
  have rv := vals_ints hi
  cases hk : K.lookup a with
  | some o =>
    have e := KX a o hk
    rw [ha] at e
    cases e
    have no : Only (fun _ => none) := fun _ => .inl rfl
    refine law_core KX hns hb hbb hlim hg ha hr F hbind no (hsp _ no (.inr ⟨_, vs.toArray, _, hk, rfl, rfl, rfl, by rw [List.size_toArray, hi.length]; exact hl, by simpa using rv⟩)) (fun b u q => ?_) (fun b q => absurd rfl q) fun q => absurd rfl q
    exact absurd (show (none : Option HO) = some u from q) (by simp)
  | none =>
    let G : Hp := fun b => if b = a then some (.frz { cls := .type "list", data := .seq vs.toArray } (.lst (ns.map V.int))) else none
    have hGa : G a = some (.frz { cls := .type "list", data := .seq vs.toArray } (.lst (ns.map V.int))) := if_pos rfl
    have hGn : ∀ b, b ≠ a → G b = none := fun b n => if_neg n
    have oG : Only G := fun b => by
      by_cases n : b = a
      · rw [n]
        exact .inr ⟨_, _, hGa⟩
      · exact .inl (hGn b n)
    refine law_core KX hns hb hbb hlim hg ha hr F hbind oG (hsp G oG (.inl (.inr ⟨_, hGa⟩))) (fun b u q => ?_) (fun b q => ?_) fun _ => hk
    · by_cases n : b = a
      · subst n
        rw [hGa] at q
        cases q
        exact ⟨ha, by rw [List.length_map]; exact hl, vs, _, rv, ha⟩
      · rw [hGn b n] at q
        cases q
    · by_cases n : b = a
      · exact n
      · exact absurd (hGn b n) q
end
/-- the goal that k_head leaves (case hc), from the law's promise -/
theorem walk_ofG {l : PySem.W.OpenLaw} {n k : Nat} {q : Program} {loose : List Str} {XP : (Str → Option Value) → Heap → Prop} {YP : World → Heap → Prop} {d : DefRec} {K : Params → PySem.W.Frag} {sp : PySem.W.Frag → Sp} {x : Str}
    (hn : l.most = some n) (hn2 : n ≤ sizeLine) (hdf : d.params.defaults = []) (hr : Room k callerA) (hY : ∀ (w : World) (h : Heap), YP w h → (K w.params).In h)
    (F : ∀ (w : World) (mg : Str → Option Value) (fa : Addr) (h : Heap), (K w.params).In h → h.Ns mainGlobals mg → mg d.name = some (.ref fa) →
      ∃ fd : FuncData, (∀ (s : Shared) (u : Value), BindsTo s fd ⟨[u], []⟩ [(x, u)]) ∧ ∀ base : Heap, (K w.params).In base → base.Ns mainGlobals mg → FnG l.prog w (K w.params) mg base k fa fd [x] (sp (K w.params)))
    (hsp : ∀ (K : PySem.W.Frag) (H : Hp) (a : Addr) (ns : List Int), ns.length ≤ n → Only H → SqL K H a (ns.map V.int) → sp K [.ref a] H (fun v _ => v = .bl true) E0) :
    PySem.W.WalkO q loose XP YP l.row.toRowW d [] (fun f vs => PySem.call f vs) := by
  refine Att.attach_call hn hdf fun w s₀ s₁ mg mb fa o pm cd doc a vs ns G Y ho hd hcd hmg hobj hints hlen hg => ?_
  have KX := hY w _ Y
  obtain ⟨fd, hb, hF⟩ := F w mg fa _ KX G.T.g hmg
  exact law_callG KX G.T.g G.T.b G.T.builtins G.T.nolimit hg hobj hints (Nat.le_trans hlen hn2) hr hF hb fun H hO hS => hsp _ H a ns hlen hO hS
end B7
namespace B7
open PySem PySem.Spec PyProof.Rows L2

/-! ### the safe part of the heap -/
structure Gr (Z : Addr → Prop) (G H G' H' : Hp) : Prop where
  sG : Same G G'
  sH : ∀ b o, H b = some o → ¬ Z b → H' b = some o
  sub : Same G' H'
  non : ∀ b, H b ≠ none → G b = none → G' b = none
  zz : ∀ b, H b ≠ none → H' b ≠ none
variable {Z : Addr → Prop} {G H G' H' G1 H1 G2 H2 : Hp} {K : PySem.W.Frag}
abbrev Z0 : Addr → Prop := fun _ => False
abbrev ZB (b : Addr) : Addr → Prop := fun x => x = b
theorem Gr.refl (s : Same G H) : Gr Z G H G H := ⟨Same.refl _, fun _ _ e _ => e, s, fun _ _ e => e, fun _ e => e⟩
theorem Gr.trans (a : Gr Z G H G1 H1) (b : Gr Z G1 H1 G2 H2) : Gr Z G H G2 H2 :=
  ⟨a.sG.trans b.sG, fun c o e n => b.sH c o (a.sH c o e n) n, b.sub, fun c h e => b.non c (a.zz c h) (a.non c h e), fun c h => b.zz c (a.zz c h)⟩
theorem Gr.old (a : Gr Z G H G1 H1) {p : Addr} (h : H1 p = none) : H p = none := by
  cases e : H p with
  | none => rfl
  | some o => exact absurd h (a.zz p (by rw [e]; simp))
theorem Gr.gnone (a : Gr Z G H G1 H1) {p : Addr} (h : H1 p = none) : G1 p = none := a.sub.free h
theorem same_upd {H : Hp} {p : Addr} {o : HO} (h : H p = none) : Same H (upd H p o) := fun b u e => by rw [upd_ne (ne_of_none e h)]; exact e
theorem Gr.mk1 (a : Gr Z G H G1 H1) {p : Addr} {o : HO} (h : H1 p = none) : Gr Z G H (upd G1 p o) (upd H1 p o) :=
  a.trans ⟨same_upd (a.gnone h), fun b u e _ => same_upd h b u e, fun b u e => by
    by_cases q : b = p
    · subst q
      rw [upd_same] at e ⊢
      exact e
    · rw [upd_ne q] at e ⊢
      exact a.sub b u e, fun b hb e => by
    have q : b ≠ p := fun z => hb (by rw [z]; exact h)
    rw [upd_ne q]
    exact e, fun b hb => by
    have q : b ≠ p := fun z => hb (by rw [z]; exact h)
    rw [upd_ne q]
    exact hb⟩
theorem Gr.mk0 (a : Gr Z G H G1 H1) {p : Addr} {o : HO} (h : H1 p = none) : Gr Z G H G1 (upd H1 p o) :=
  a.trans ⟨Same.refl _, fun b u e _ => same_upd h b u e, a.sub.trans (same_upd h), fun b _ e => e, fun b hb => by
    have q : b ≠ p := fun z => hb (by rw [z]; exact h)
    rw [upd_ne q]
    exact hb⟩
/-- a thing made since H, in no safe part, is changed -/
theorem Gr.chg (a : Gr Z G H G1 H1) {p : Addr} {o : HO} (h : H p = none) (g : G1 p = none) : Gr Z G H G1 (upd H1 p o) :=
  ⟨a.sG, fun b u e n => by rw [upd_ne (ne_of_none e h)]; exact a.sH b u e n, fun b u e => by rw [upd_ne (ne_of_none e g)]; exact a.sub b u e, a.non, fun b hb => by
    by_cases q : b = p
    · subst q; rw [upd_same]; simp
    · rw [upd_ne q]; exact a.zz b hb⟩
theorem Gr.chgZ (a : Gr Z G H G1 H1) {p : Addr} {o : HO} (h : Z p) (g : G1 p = none) : Gr Z G H G1 (upd H1 p o) :=
  ⟨a.sG, fun b u e n => by
    have q : b ≠ p := fun z => n (by rw [z]; exact h)
    rw [upd_ne q]; exact a.sH b u e n, fun b u e => by rw [upd_ne (ne_of_none e g)]; exact a.sub b u e, a.non, fun b hb => by
    by_cases q : b = p
    · subst q; rw [upd_same]; simp
    · rw [upd_ne q]; exact a.zz b hb⟩
/-- a thing made since H is safe from here on -/
theorem Gr.safe (a : Gr Z G H G1 H1) {p : Addr} {o : HO} (h : H p = none) (e : H1 p = some o) (g : G1 p = none) : Gr Z G H (upd G1 p o) H1 :=
  ⟨a.sG.trans (same_upd g), a.sH, fun b u z => by
    by_cases q : b = p
    · subst q; rw [upd_same] at z; rw [e]; exact z
    · rw [upd_ne q] at z; exact a.sub b u z, fun b hb z => by
    have q : b ≠ p := fun y => hb (by rw [y]; exact h)
    rw [upd_ne q]; exact a.non b hb z, a.zz⟩
theorem Gr.same (a : Gr Z0 G H G1 H1) : Same H H1 := fun b o e => a.sH b o e fun z => z
theorem Gr.wk (a : Gr Z0 G H G1 H1) : Gr Z G H G1 H1 := ⟨a.sG, fun b o e _ => a.same b o e, a.sub, a.non, a.zz⟩
theorem Gr.of_same (s : Same G H) (e : Same H H1) : Gr Z G H G H1 := ⟨Same.refl _, fun b o q _ => e b o q, s.trans e, fun _ _ q => q, fun b hb q => by
  rw [e.free q] at hb; exact hb rfl⟩

/-! ### data in a heap -/
theorem seqL_at {a : Addr} {xs : List V} (s : Same G H) (h : SqL K G a xs) : SqL K H a xs := s.seq h
theorem seqT_at {a : Addr} {xs : List V} (s : Same G H) (h : SqT K G a xs) : SqT K H a xs := by
  rcases h with (h | ⟨o, h⟩) | h
  · exact .inl (.inl (s _ _ h))
  · exact .inl (.inr ⟨o, s _ _ h⟩)
  · exact .inr h
mutual
theorem dp_at (s : Same G H) : ∀ {v : V} {d : PyData}, Dp K G v d → Dp K H v d
  | _, _, .non => .non
  | _, _, .bl b => .bl b
  | _, _, .int i => .int i
  | _, _, .str z => .str z
  | _, _, .lst q a => .lst (seqL_at s q) (dpa_at s a)
  | _, _, .tup q a => .tup (seqT_at s q) (dpa_at s a)
theorem dpa_at (s : Same G H) : ∀ {vs : List V} {ds : List PyData}, DpAll K G vs ds → DpAll K H vs ds
  | _, _, .nil => .nil
  | _, _, .cons d a => .cons (dp_at s d) (dpa_at s a)
end
theorem dpa_len : ∀ {vs : List V} {ds : List PyData}, DpAll K G vs ds → vs.length = ds.length
  | _, _, .nil => rfl
  | _, _, .cons _ a => by simp [dpa_len a]
theorem dpa_get : ∀ {vs : List V} {ds : List PyData} {i : Nat} {v : V}, DpAll K G vs ds → vs[i]? = some v → ∃ d, ds[i]? = some d ∧ Dp K G v d
  | _, _, i, v, .nil, e => by simp at e
  | _, _, 0, v, .cons d a, e => by
    simp at e
    subst e
    exact ⟨_, rfl, d⟩
  | _, _, i + 1, v, .cons d a, e => by
    simp at e
    obtain ⟨d', h1, h2⟩ := dpa_get a e
    exact ⟨d', by simpa using h1, h2⟩
theorem dpa_snoc : ∀ {vs : List V} {ds : List PyData} {v : V} {d : PyData}, DpAll K G vs ds → Dp K G v d → DpAll K G (vs ++ [v]) (ds ++ [d])
  | _, _, _, _, .nil, q => .cons q .nil
  | _, _, _, _, .cons d a, q => .cons d (dpa_snoc a q)
theorem take_snoc {α : Type} {ds : List α} {i : Nat} {d : α} (e : ds[i]? = some d) : ds.take (i + 1) = ds.take i ++ [d] := by
  rw [List.take_add_one, e]; rfl

/-- small data -/
structure Bd (n m : Nat) (d : PyData) : Prop where
  s : d.showable = true
  h : d.hasDict = false
  l : d.leavesShort 13 = true
  e : d.depth ≤ n
  b : d.bulk ≤ m
theorem Bd.mono {n m n' m' : Nat} {d : PyData} (x : Bd n m d) (h1 : n ≤ n') (h2 : m ≤ m') : Bd n' m' d := ⟨x.s, x.h, x.l, Nat.le_trans x.e h1, Nat.le_trans x.b h2⟩
theorem Bd.shown {n m : Nat} {d : PyData} (x : Bd n m d) (h : m ≤ 2 ^ 20) : d.shown.length ≤ sizeLine := PyData.shown_fits_bulk (by decide) (by decide) x.l (Nat.le_trans x.b h)
theorem Bd.all {n m : Nat} : ∀ {ds : List PyData}, (∀ d ∈ ds, Bd n m d) → PyData.showableAll ds = true ∧ PyData.hasDictAll ds = false ∧ PyData.leavesShortAll 13 ds = true ∧ PyData.depthAll ds ≤ n ∧ PyData.bulkAll ds ≤ ds.length * (m + 1)
  | [], _ => ⟨rfl, rfl, rfl, Nat.zero_le _, Nat.zero_le _⟩
  | d :: ds, h => by
    obtain ⟨a, b, c, e, f⟩ := Bd.all fun x hx => h x (List.mem_cons_of_mem _ hx)
    have q := h d (List.mem_cons_self ..)
    refine ⟨by simp only [PyData.showableAll, q.s, a, Bool.and_self], by simp only [PyData.hasDictAll, q.h, b, Bool.or_self], by simp only [PyData.leavesShortAll, q.l, c, Bool.and_self], ?_, ?_⟩
    · simp only [PyData.depthAll]
      exact Nat.max_le.mpr ⟨q.e, e⟩
    · simp only [PyData.bulkAll, List.length_cons, Nat.add_mul, Nat.one_mul]
      have := q.b
      omega
theorem Bd.lst {n m k : Nat} {ds : List PyData} (h : ∀ d ∈ ds, Bd n m d) (hk : ds.length * (m + 1) ≤ k) : Bd (n + 1) k (.list ds) := by
  obtain ⟨a, b, c, e, f⟩ := Bd.all h
  exact ⟨by simpa only [PyData.showable] using a, by simpa only [PyData.hasDict] using b, by simpa only [PyData.leavesShort] using c, by simp only [PyData.depth]; omega, by simp only [PyData.bulk]; omega⟩
theorem Bd.tup {n m k : Nat} {ds : List PyData} (h : ∀ d ∈ ds, Bd n m d) (hk : ds.length * (m + 1) ≤ k) : Bd (n + 1) k (.tuple ds) := by
  obtain ⟨a, b, c, e, f⟩ := Bd.all h
  exact ⟨by simpa only [PyData.showable] using a, by simpa only [PyData.hasDict] using b, by simpa only [PyData.leavesShort] using c, by simp only [PyData.depth]; omega, by simp only [PyData.bulk]; omega⟩
theorem bulkAll_len : ∀ ds : List PyData, ds.length ≤ PyData.bulkAll ds
  | [] => Nat.zero_le _
  | d :: ds => by
    have := bulkAll_len ds
    simp only [PyData.bulkAll, List.length_cons]
    omega
theorem bulk_mem : ∀ {ds : List PyData} {d : PyData}, d ∈ ds → d.bulk ≤ PyData.bulkAll ds
  | e :: ds, d, h => by
    simp only [PyData.bulkAll]
    cases h with
    | head => omega
    | tail _ h => have := bulk_mem h; omega
theorem Bd.none : Bd 0 0 .none := ⟨rfl, rfl, rfl, Nat.le_refl _, Nat.le_refl _⟩
theorem Bd.bool (b : Bool) : Bd 0 0 (.bool b) := ⟨rfl, rfl, rfl, Nat.le_refl _, Nat.le_refl _⟩
theorem Bd.int {i : Int} (h1 : -100 ≤ i) (h2 : i < 100) : Bd 0 0 (.int i) := by
  have k : ∀ j : Fin 200, (PyData.showable (.int ((j : Nat) - 100 : Int)) && PyData.leavesShort 13 (.int ((j : Nat) - 100 : Int))) = true := by decide +kernel
  have e : i = (((i + 100).toNat : Nat) - 100 : Int) := by omega
  have q := k ⟨(i + 100).toNat, by omega⟩
  rw [Bool.and_eq_true] at q
  rw [e]
  exact ⟨q.1, rfl, q.2, Nat.le_refl _, Nat.le_refl _⟩
theorem Bd.str {z : Str} (h : (z.cps.toList.all fun c => decide (c < 16 ^ 8)) = true) {m : Nat} (hm : z.cps.size ≤ m) : Bd 0 m (.str z) := ⟨rfl, rfl, by simpa only [PyData.leavesShort] using h, Nat.le_refl _, by simpa only [PyData.bulk] using hm⟩

/-! ### a list or a tuple -/
def Sq (K : PySem.W.Frag) (t : Bool) (H : Hp) (a : Addr) (xs : List V) : Prop := if t = true then SqT K H a xs else SqL K H a xs
def Its_ (K : PySem.W.Frag) (t : Bool) (a : Addr) : It := if t = true then Itt K a else Itl K a
theorem sq_at {t : Bool} {a : Addr} {xs : List V} (s : Same G H) (h : Sq K t G a xs) : Sq K t H a xs := by
  cases t with
  | true => exact seqT_at s h
  | false => exact seqL_at s h
def iSeq (K : PySem.W.Frag) (tl : TE) : TI := fun σ H R => tl σ H fun x H1 => ∃ (a : Addr) (t : Bool) (xs : List V), x = .ref a ∧ Sq K t H1 a xs ∧ R (Its_ K t a) H1
theorem pi_seq {X : Cx} {tg l : Expr} {tl : TE} (hl : PE X l tl) : PI X tg l (iSeq X.K tl) := by
  refine ⟨fun pins s σ H R I h => ?_⟩
  refine thn (hl.run pins s σ H _ I h) fun v s1 ⟨x, H1, I1, r1, q1⟩ => ?_
  obtain ⟨a, t, xs, e, hq, q⟩ := q1
  subst e
  cases r1
  cases t with
  | false =>
    obtain ⟨its, rv, p, hz⟩ := I1.list (show SqL X.K H1 a xs from hq)
    refine wpAny_pyIter_list p.isList ?_
    refine ⟨s1.heap.objs.size, [s1.heap.objs.size], _, _, H1, rfl, I1.kept (t' := s1.toks) fun b o e => Heap.get?_push_of_some _ e, turn_list a _, ⟨_, Heap.get?_push_size _ rfl, rfl, rfl⟩, fun b hb => ?_, q⟩
    have e : b = s1.heap.objs.size := by simpa using hb
    subst e
    exact I1.fpOk (Nat.le_refl _) (I1.hok.fresh (Nat.le_refl _))
  | true =>
    obtain ⟨its, rv, p, hz⟩ := I1.tuple (show SqT X.K H1 a xs from hq)
    refine wpAny_pyIter_tuple (show s1.heap.IsTuple a its.toArray from p) ?_
    refine ⟨s1.heap.objs.size, [s1.heap.objs.size], _, _, H1, rfl, I1.kept (t' := s1.toks) fun b o e => Heap.get?_push_of_some _ e, turn_tuple a _, ⟨_, Heap.get?_push_size _ rfl, rfl, rfl⟩, fun b hb => ?_, q⟩
    have e : b = s1.heap.objs.size := by simpa using hb
    subst e
    exact I1.fpOk (Nat.le_refl _) (I1.hok.fresh (Nat.le_refl _))
theorem lc_seq {t : Bool} {a : Addr} {xs : List V} {g : TG} {tt : TT} {te : TE} {vs : List Nat} {σ : L2.St} {H1 : Hp} {D : Addr} {Qd : Hp → Prop} (Pv : Nat → Hp → Prop) (h0 : Pv 0 (upd H1 D (.lst []))) (hl : ∀ i H, i ≤ xs.length → Pv i H → Sq K t H a xs)
    (hs : ∀ i x H, xs[i]? = some x → Pv i H → g x (wipe σ vs) H fun σ2 H2 => wipe σ2 vs = wipe σ vs ∧ tt σ2 H2 fun b H3 =>
      if b = true then te σ2 H3 fun y H4 => ∃ acc, H4 D = some (.lst acc) ∧ acc.length < sizeLine ∧ Pv (i + 1) (upd H4 D (.lst (acc ++ [y]))) else Pv (i + 1) H3) (hd : ∀ H, Pv xs.length H → Qd H) :
    ∃ W : Nat → Nat → Hp → Prop, (∃ m, W 0 m (upd H1 D (.lst []))) ∧ ∀ i m H, W i m H →
      ((Its_ K t a).stop i H ∧ Qd H) ∨ ((Its_ K t a).go i H ∧ ∃ Nx : Hp → Prop, (∀ H', Nx H' → ∃ m', m' < m ∧ W (i + 1) m' H') ∧ ∀ x H', (Its_ K t a).yld i H x H' → g x (wipe σ vs) H' fun σ2 H2 => wipe σ2 vs = wipe σ vs ∧ tt σ2 H2 fun b H3 =>
        if b = true then te σ2 H3 fun y H4 => ∃ acc, H4 D = some (.lst acc) ∧ acc.length < sizeLine ∧ Nx (upd H4 D (.lst (acc ++ [y]))) else Nx H3) := by
  cases t with
  | false => exact lc_list Pv h0 hl hs hd
  | true => exact lc_tup Pv h0 hl hs hd
theorem for_seq {t : Bool} {a : Addr} {xs : List V} {g : TG} {tb : TS} {D : Ends} {σ : L2.St} {H : Hp} (Pv : Nat → L2.St → Hp → Prop) (h0 : Pv 0 σ H) (hl : ∀ i σ H, i ≤ xs.length → Pv i σ H → Sq K t H a xs)
    (hs : ∀ i x σ H, xs[i]? = some x → Pv i σ H → g x σ H fun σ2 H2 => tb { D with nx := Pv (i + 1), ct := Pv (i + 1), bk := D.nx } σ2 H2) (hd : ∀ σ H, Pv xs.length σ H → D.nx σ H) :
    ∃ W : Nat → Nat → L2.St → Hp → Prop, (∃ m, W 0 m σ H) ∧ ∀ i m σ H, W i m σ H →
      ((Its_ K t a).stop i H ∧ D.nx σ H) ∨ ((Its_ K t a).go i H ∧ ∃ N : L2.St → Hp → Prop, (∀ σ' H', N σ' H' → ∃ m', m' < m ∧ W (i + 1) m' σ' H') ∧ ∀ x H', (Its_ K t a).yld i H x H' → g x σ H' fun σ2 H2 => tb { D with nx := N, ct := N, bk := D.nx } σ2 H2) := by
  cases t with
  | false => exact for_list Pv h0 hl hs hd
  | true => exact for_tup Pv h0 hl hs hd

/-! ### isinstance of data -/
theorem tyL {a : Addr} {xs : List V} (h : SqL K H a xs) : TyX K H (.ref a) (.type "list") := by
  rcases h with (h | ⟨o, h⟩) | ⟨o, its, n, h, c, _⟩
  · exact .base (.lst h)
  · exact .base (.frz h)
  · exact .kList h c
theorem tyT {a : Addr} {xs : List V} (h : SqT K H a xs) : TyX K H (.ref a) (.type "tuple") := by
  rcases h with (h | ⟨o, h⟩) | ⟨o, its, n, h, c, _⟩
  · exact .base (.tup h)
  · exact .fTuple h
  · exact .kTuple h c
def isLst : PyData → Bool
  | .list _ => true
  | _ => false
def isTup : PyData → Bool
  | .tuple _ => true
  | _ => false
theorem isi_list {v : V} {d : PyData} (h : Dp K H v d) : ∃ t, TyX K H v t ∧ PySem.W.kitOne K t (.type "list") = some (isLst d) := by
  cases h with
  | non => exact ⟨_, .base .non, kit_ty (r := false) (by decide +kernel)⟩
  | bl b => exact ⟨_, .base (.bl b), kit_ty (r := false) (by decide +kernel)⟩
  | int i => exact ⟨_, .base (.int i), kit_ty (r := false) (by decide +kernel)⟩
  | str z => exact ⟨_, .base (.str z), kit_ty (r := false) (by decide +kernel)⟩
  | lst q a => exact ⟨_, tyL q, kit_ty (r := true) (by decide +kernel)⟩
  | tup q a => exact ⟨_, tyT q, kit_ty (r := false) (by decide +kernel)⟩
theorem isi_tup {v : V} {d : PyData} (h : Dp K H v d) : ∃ t, TyX K H v t ∧ PySem.W.kitOne K t (.type "tuple") = some (isTup d) := by
  cases h with
  | non => exact ⟨_, .base .non, kit_ty (r := false) (by decide +kernel)⟩
  | bl b => exact ⟨_, .base (.bl b), kit_ty (r := false) (by decide +kernel)⟩
  | int i => exact ⟨_, .base (.int i), kit_ty (r := false) (by decide +kernel)⟩
  | str z => exact ⟨_, .base (.str z), kit_ty (r := false) (by decide +kernel)⟩
  | lst q a => exact ⟨_, tyL q, kit_ty (r := false) (by decide +kernel)⟩
  | tup q a => exact ⟨_, tyT q, kit_ty (r := true) (by decide +kernel)⟩
theorem isi_both {v : V} {d : PyData} (h : Dp K H v d) : ∃ t, TyX K H v t ∧ PySem.W.kitAny K t [.type "list", .type "tuple"] = some (isLst d || isTup d) := by
  have q : ∀ {a : String} {b c : Bool}, kitB a "list" = some b → kitB a "tuple" = some c → PySem.W.kitAny K (.type a) [.type "list", .type "tuple"] = some (b || c) := fun {a b c} h1 h2 =>
    kitAny_cons (kit_ty h1) (fun e => by subst e; exact kitAny_cons (kit_ty h2) (fun e => by subst e; exact kitAny_nil) fun e => by subst e; rfl) fun e => by subst e; rfl
  cases h with
  | non => exact ⟨_, .base .non, q (b := false) (c := false) (by decide +kernel) (by decide +kernel)⟩
  | bl b => exact ⟨_, .base (.bl b), q (b := false) (c := false) (by decide +kernel) (by decide +kernel)⟩
  | int i => exact ⟨_, .base (.int i), q (b := false) (c := false) (by decide +kernel) (by decide +kernel)⟩
  | str z => exact ⟨_, .base (.str z), q (b := false) (c := false) (by decide +kernel) (by decide +kernel)⟩
  | lst h a => exact ⟨_, tyL h, q (b := true) (c := false) (by decide +kernel) (by decide +kernel)⟩
  | tup h a => exact ⟨_, tyT h, q (b := false) (c := true) (by decide +kernel) (by decide +kernel)⟩
def keptD : PyData → PyData
  | .list ds => .tuple ds
  | d => d
end B7
namespace B7
open PySem PySem.Spec PyProof.Rows L2

/-! ### the text by places -/
def top (i : Nat) : Stmt := PySem.Challenge.pw_bestwhatever_k77_square_tables_keep_what.main.body.getD i (.Pass ⟨0, 0, 0, 0⟩)
/-- a def of the top -/
structure DefAt (K : PySem.W.Frag) (mg : Str → Option Value) (x : Str) (st : Stmt) (ps : List Str) (f : Addr) (fd : FuncData) : Prop where
  F : Fun K x x st f fd
  m : mg x = some (.ref f)
  b : Binds K fd ps []
/-- names that are still the built-in ones -/
structure Bn (mg : Str → Option Value) : Prop where
  n_isinstance : mg "isinstance" = none
  n_list : mg "list" = none
  n_tuple : mg "tuple" = none
  n_int : mg "int" = none
  n_bool : mg "bool" = none
  n_len : mg "len" = none
  n_abs : mg "abs" = none
  n_range : mg "range" = none
  n_repr : mg "repr" = none
  n_zip : mg "zip" = none
  n_iter : mg "iter" = none

theorem ite_no {b : Bool} {A B : Prop} (h : b = false) (hB : B) : if b = true then A else B := by subst h; exact hB
theorem ite_yes {b : Bool} {A B : Prop} (h : b = true) (hA : A) : if b = true then A else B := by subst h; exact hA
theorem ite_b {b : Bool} {A B : Prop} (h1 : b = true → A) (h2 : b = false → B) : if b = true then A else B := by
  cases b with
  | true => exact h1 rfl
  | false => exact h2 rfl
theorem dp_len {G : Hp} {K : PySem.W.Frag} {vs : List V} {ds : List PyData} (h : DpAll K G vs ds) {i : Nat} {x : V} (e : vs[i]? = some x) : i < ds.length := by
  rw [← dpa_len h]
  exact (List.getElem?_eq_some_iff.mp e).1
section
variable {P : Program} {w : World} {K : PySem.W.Frag} {mg : Str → Option Value} {base : Heap}
/-! ### copied -/
abbrev s_copied : Stmt := top 1
theorem sc_copied : FnScope ["value", "depth", "parts", "part"] ["value", "depth"] (defScope s_copied) := ⟨rfl, rfl, rfl, by decide +kernel, rfl, by decide +kernel, by decide +kernel⟩
/-- what copied is handed: data of the safe part, or (where it looks in) a list or tuple of such -/
def CpIn (K : PySem.W.Frag) (G H : Hp) (m : Nat) (v : V) (d : PyData) : Prop := Dp K G v d ∨ (0 < m ∧ ∃ (a : Addr) (t : Bool) (xs : List V) (ds : List PyData), v = .ref a ∧ d = (if t = true then .tuple ds else .list ds) ∧ Sq K t H a xs ∧ DpAll K G xs ds)
def spCopied (K : PySem.W.Frag) (m : Nat) : Sp := fun vs H Q _ => ∃ (v : V) (d : PyData) (G : Hp), vs = [v, .int m] ∧ Same G H ∧ d.bulk ≤ 1000 ∧ CpIn K G H m v d ∧ ∀ u G' H', Gr Z0 G H G' H' → Dp K G' u d → Q u H'
theorem CpIn.dp {K : PySem.W.Frag} {G H : Hp} {m : Nat} {v : V} {d : PyData} (s : Same G H) (h : CpIn K G H m v d) : Dp K H v d := by
  rcases h with h | ⟨_, a, t, xs, ds, rfl, rfl, h1, h2⟩
  · exact dp_at s h
  · cases t with
    | true => exact .tup h1 (dpa_at s h2)
    | false => exact .lst h1 (dpa_at s h2)
theorem ok_copied {f : Addr} {fd : FuncData} (D : DefAt K mg "copied" s_copied ["value", "depth"] f fd) (T : Bn mg) : ∀ m : Nat, FnOk P w K mg base CX0 (m + 1) f fd ["value", "depth"] (spCopied K m) := by
  -- the def's text at any level, given the def one level below (or depth = 0)
  have step : ∀ (m j : Nat) (sp' : Sp), FnOk P w K mg base CX0 j f fd ["value", "depth"] sp' → (0 < m → ∃ m', m = m' + 1 ∧ sp' = spCopied K m') → FnOk P w K mg base CX0 (j + 1) f fd ["value", "depth"] (spCopied K m) := by
    intro m j sp' G_copied hsp
    refine D.F.ok sc_copied (fun vs H Q E h => ?_) (fun cdv A outer s H vs Q E hr h => ?_)
    · obtain ⟨v, d, G, rfl, _⟩ := h
      rfl
    · obtain ⟨v, d, G, rfl, sG, hb, hin, k⟩ := h
      refine ⟨_, (pss_cons (ps_if (PW.pt (pw_or (pt_cmpR op_eq (pv 1) pe_int (nomark _)) (pw_or1 (pt_not (pt_val (pe_callB call_isiT (by rfl) T.n_isinstance PyProof.Rows.boot_isinstance (pa_cons (pv 0) (pa_cons (pe_tup (pa_cons (pe_bltn (v := .ty "list") (by rfl) T.n_list PyProof.Rows.boot_list rfl) (pa_cons (pe_bltn (v := .ty "tuple") (by rfl) T.n_tuple PyProof.Rows.boot_tuple rfl) pa_nil))) pa_nil))))))))
      (pss_one (ps_ret (pv 0)))
      pss_nil)
    (pss_cons (ps_setLc (i := 2) (own := [("part", 3)]) (g := gName 3) (tt := tYes) rfl sc_copied.nd rfl rfl (sw_true rfl rfl rfl (by decide +kernel)) (pi_seq (pv 0)) (blkOk_by (N := ["value", "depth", "parts", "part"]) (sc := defScope s_copied) (by decide +kernel)) (fun _ _ _ _ _ => (pg_name (i := 3) sc_copied.nd rfl (Or.inl rfl))) (fun _ _ _ _ _ => pts_nil) (fun _ _ _ _ _ => (pe_call G_copied hr rfl D.m D.F.kp D.b .nil pass0 (pa_cons (pv 3) (pa_cons (pe_op op_sub (pv 1) pe_int) pa_nil)))))
    (pss_one (ps_ret (pe_ifExp (pt_val (pe_callB call_isi (by rfl) T.n_isinstance PyProof.Rows.boot_isinstance (pa_cons (pv 0) (pa_cons (pe_bltn (v := .ty "list") (by rfl) T.n_list PyProof.Rows.boot_list rfl) pa_nil)))) (pv 2) (pe_callTy call_tuple_of (by rfl) T.n_tuple PyProof.Rows.boot_tuple (pa_cons (pv 2) pa_nil))))))), ?_⟩
      refine ⟨_, rfl, rfl, _, rfl, ?_⟩
      refine ite_b (fun e => ?_) fun e => ?_
      · -- depth is 0
        refine iteT ⟨_, rfl, ?_⟩
        have hm : m = 0 := by
          have := of_decide_eq_true e
          injection this with this
          omega
        rcases hin with hin | ⟨q, _⟩
        · exact k v G H (.refl sG) hin
        · omega
      · have hm : 0 < m := by
          have := of_decide_eq_false e
          cases m with
          | zero => exact absurd rfl this
          | succ m => omega
        obtain ⟨m', rfl, rfl⟩ := hsp hm
        have hD := hin.dp sG
        refine ⟨_, rfl, by show 2 ≤ sizeLine; rw [sizeLine_eq]; decide, fun tp htp => ?_⟩
        have s1 := same_upd (o := HO.tup [.ty "list", .ty "tuple"]) htp
        obtain ⟨ty, h1, h2⟩ := isi_both (dp_at s1 hD)
        refine ⟨_, tp, _, ty, _, _, rfl, upd_same, .cons (.ty "list") (.cons (.ty "tuple") .nil), h1, h2, _, rfl, ?_⟩
        have G1 : Gr Z0 G H G (upd H tp (HO.tup [.ty "list", .ty "tuple"])) := (Gr.refl sG).mk0 htp
        refine ite_b (fun e2 => ?_) fun e2 => ?_
        · -- not a list, not a tuple
          refine ⟨_, rfl, k v G _ G1 ?_⟩
          rcases hin with hin | ⟨_, a, t, xs, ds, rfl, rfl, _⟩
          · exact hin
          · cases t <;> simp [isLst, isTup] at e2
        · -- parts
          have hsq : ∃ (a : Addr) (t : Bool) (xs : List V) (ds : List PyData), v = .ref a ∧ d = (if t = true then .tuple ds else .list ds) ∧ Sq K t (upd H tp (HO.tup [.ty "list", .ty "tuple"])) a xs ∧ DpAll K G xs ds := by
            rcases hin with hin | ⟨_, a, t, xs, ds, h1, h2, h3, h4⟩
            · cases hin with
              | non => cases e2
              | bl b => cases e2
              | int i => cases e2
              | str z => cases e2
              | lst q r => exact ⟨_, false, _, _, rfl, rfl, seqL_at (sG.trans s1) q, r⟩
              | tup q r => exact ⟨_, true, _, _, rfl, rfl, seqT_at (sG.trans s1) q, r⟩
            · exact ⟨a, t, xs, ds, h1, h2, sq_at s1 h3, h4⟩
          obtain ⟨a, t, xs, ds, rfl, hd, hq, hall⟩ := hsq
          have hlen : xs.length = ds.length := dpa_len hall
          have hds : ds.length ≤ 1000 := by
            have := bulkAll_len ds
            subst hd
            cases t <;> simp only [PyData.bulk, Bool.false_eq_true, if_true, if_false] at hb <;> omega
          refine ⟨_, rfl, a, t, xs, rfl, hq, fun L hL => ?_⟩
          refine lc_seq (K := K) (t := t) (a := a) (xs := xs) (fun i H2 => ∃ (G2 : Hp) (acc : List V), H2 L = some (.lst acc) ∧ G2 L = none ∧ acc.length = i ∧ Gr Z0 G H G2 H2 ∧ DpAll K G2 acc (ds.take i) ∧ Same (upd H tp (HO.tup [.ty "list", .ty "tuple"])) H2) ?_ ?_ ?_ ?_
          · exact ⟨G, [], upd_same, G1.gnone hL, rfl, G1.mk0 hL, .nil, same_upd hL⟩
          · rintro i H2 hi ⟨G2, acc, _, _, _, g, _, sm⟩
            exact sq_at sm hq
          · rintro i x H2 hx ⟨G2, acc, hl, gl, ha, g, hA, sm⟩
            obtain ⟨dx, ed, hdx⟩ := dpa_get hall hx
            have hxb : dx.bulk ≤ 1000 := by
              have := bulk_mem (List.mem_of_getElem? ed)
              subst hd
              cases t <;> simp only [PyData.bulk, Bool.false_eq_true, if_true, if_false] at hb <;> omega
            refine ⟨rfl, _, rfl, _, rfl, _, _, rfl, rfl, ?_⟩
            refine ⟨x, dx, G2, ?_, g.sub, hxb, .inl (dp_at g.sG hdx), fun u G3 H3 g3 hu => ?_⟩
            · show [x, V.int ((m' + 1 : Nat) - 1 : Int)] = [x, V.int (m' : Int)]
              congr 3
              omega
            · have hl3 : H3 L = some (.lst acc) := g3.same _ _ hl
              have gl3 : G3 L = none := g3.non L (by rw [hl]; simp) gl
              have hi := dp_len hall hx
              refine ⟨acc, hl3, by rw [ha, sizeLine_eq]; omega, G3, acc ++ [u], upd_same, gl3, by simp [ha], ?_, ?_, ?_⟩
              · exact (g.trans g3).chg (G1.old hL) gl3
              · rw [take_snoc ed]
                exact dpa_snoc (dpa_at g3.sG hA) hu
              · intro b o e
                rw [upd_ne (ne_of_none e hL)]
                exact g3.same b o (sm b o e)
          · rintro H2 ⟨G2, acc, hl, gl, ha, g, hA, sm⟩
            rw [hlen, List.take_length] at hA
            obtain ⟨ty2, h3, h4⟩ := isi_list (dp_at (s1.trans sm) hD)
            refine ⟨_, rfl, _, _, ty2, _, _, rfl, .ty "list", h3, h4, _, rfl, ?_⟩
            subst hd
            cases t with
            | false =>
              refine iteT ⟨_, rfl, ?_⟩
              refine k (.ref L) _ H2 (g.safe (G1.old hL) hl gl) (.lst (.of upd_same) (dpa_at (same_upd gl) hA))
            | true =>
              refine iteF ⟨_, rfl, L, acc, rfl, .inl ⟨.of hl, fun p hp => ?_⟩⟩
              exact k (.ref p) _ _ (g.mk1 hp) (.tup (.of upd_same) (dpa_at (same_upd (g.gnone hp)) hA))
  intro m
  induction m with
  | zero =>
    have F0 : FnOk P w K mg base CX0 0 f fd ["value", "depth"] (fun _ _ _ _ => False) := ⟨fun _ _ _ _ h => h.elim, fun _ _ _ _ _ _ _ _ _ _ _ _ _ h => h.elim⟩
    exact step 0 0 _ F0 fun h => absurd h (Nat.lt_irrefl 0)
  | succ m ih => exact step (m + 1) (m + 1) _ ih fun _ => ⟨m, rfl, rfl⟩
end
end B7
namespace B7
open PySem PySem.Spec PyProof.Rows L2
section
variable {P : Program} {w : World} {K : PySem.W.Frag} {mg : Str → Option Value} {base : Heap}
/-! ### frozen -/
abbrev s_frozen : Stmt := top 2
theorem sc_frozen : FnScope ["row", "held"] ["row"] (defScope s_frozen) := ⟨rfl, rfl, rfl, by decide +kernel, rfl, by decide +kernel, by decide +kernel⟩
def spFrozen (K : PySem.W.Frag) : Sp := fun vs H Q _ => ∃ (v : V) (d : PyData) (G : Hp), vs = [v] ∧ Same G H ∧ d.bulk ≤ 1000 ∧ CpIn K G H 2 v d ∧ ∀ u G' H', Gr Z0 G H G' H' → Dp K G' u (keptD d) → Q u H'
theorem ok_frozen {f f1 : Addr} {fd fd1 : FuncData} (D : DefAt K mg "frozen" s_frozen ["row"] f fd) (D1 : DefAt K mg "copied" s_copied ["value", "depth"] f1 fd1) (T : Bn mg) : FnOk P w K mg base CX0 4 f fd ["row"] (spFrozen K) := by
  have G_copied : FnOk P w K mg base CX0 3 f1 fd1 ["value", "depth"] (spCopied K 2) := ok_copied D1 T 2
  refine D.F.ok sc_frozen (fun vs H Q E h => ?_) (fun cdv A outer s H vs Q E hr h => ?_)
  · obtain ⟨v, d, G, rfl, _⟩ := h
    rfl
  · obtain ⟨v, d, G, rfl, sG, hb, hin, k⟩ := h
    refine ⟨_, (pss_cons (ps_set (i := 1) sc_frozen.nd rfl (Or.inl rfl) (pe_call G_copied hr rfl D1.m D1.F.kp D1.b .nil pass0 (pa_cons (pv 0) (pa_cons pe_int pa_nil))))
    (pss_one (ps_ret (pe_ifExp (pt_val (pe_callB call_isi (by rfl) T.n_isinstance PyProof.Rows.boot_isinstance (pa_cons (pv 1) (pa_cons (pe_bltn (v := .ty "list") (by rfl) T.n_list PyProof.Rows.boot_list rfl) pa_nil)))) (pe_callTy call_tuple_of (by rfl) T.n_tuple PyProof.Rows.boot_tuple (pa_cons (pv 1) pa_nil)) (pv 1))))), ?_⟩
    refine ⟨_, rfl, v, d, G, rfl, sG, hb, hin, fun u G1 H1 g hu => ?_⟩
    obtain ⟨ty, h3, h4⟩ := isi_list (dp_at g.sub hu)
    refine ⟨_, rfl, _, _, ty, _, _, rfl, .ty "list", h3, h4, _, rfl, ?_⟩
    refine ite_b (fun e => ?_) fun e => ?_
    · cases hu with
      | lst q a => exact ⟨_, rfl, _, _, rfl, .inl ⟨seqL_at g.sub q, fun p hp => k (.ref p) _ _ (g.mk1 hp) (.tup (.of upd_same) (dpa_at (same_upd (g.gnone hp)) a))⟩⟩
      | _ => cases e
    · refine ⟨_, rfl, k u G1 H1 g ?_⟩
      cases d with
      | list ds => cases e
      | _ => exact hu
/-! ### _law_kept -/
abbrev s_law_kept : Stmt := top 14
theorem sc_law_kept : FnScope ["value"] ["value"] (defScope s_law_kept) := ⟨rfl, rfl, rfl, by decide +kernel, rfl, by decide +kernel, by decide +kernel⟩
def spKept (K : PySem.W.Frag) : Sp := fun vs H Q _ => ∃ (v : V) (d : PyData) (G : Hp), vs = [v] ∧ Same G H ∧ Dp K G v d ∧ ∀ u G' H', Gr Z0 G H G' H' → Dp K G' u (keptD d) → Q u H'
theorem ok_kept {f : Addr} {fd : FuncData} (D : DefAt K mg "_law_kept" s_law_kept ["value"] f fd) (T : Bn mg) : FnOk P w K mg base CX0 1 f fd ["value"] (spKept K) := by
  refine D.F.ok sc_law_kept (fun vs H Q E h => ?_) (fun cdv A outer s H vs Q E hr h => ?_)
  · obtain ⟨v, d, G, rfl, _⟩ := h
    rfl
  · obtain ⟨v, d, G, rfl, sG, hd, k⟩ := h
    refine ⟨_, (pss_one (ps_ret (pe_ifExp (pt_val (pe_callB call_isi (by rfl) T.n_isinstance PyProof.Rows.boot_isinstance (pa_cons (pv 0) (pa_cons (pe_bltn (v := .ty "list") (by rfl) T.n_list PyProof.Rows.boot_list rfl) pa_nil)))) (pe_callTy call_tuple_of (by rfl) T.n_tuple PyProof.Rows.boot_tuple (pa_cons (pv 0) pa_nil)) (pv 0)))), ?_⟩
    obtain ⟨ty, h3, h4⟩ := isi_list (dp_at sG hd)
    refine ⟨_, rfl, _, _, ty, _, _, rfl, .ty "list", h3, h4, _, rfl, ?_⟩
    refine ite_b (fun e => ?_) fun e => ?_
    · cases hd with
      | lst q a => exact ⟨_, rfl, _, _, rfl, .inl ⟨seqL_at sG q, fun p hp => k (.ref p) _ _ ((Gr.refl sG).mk1 hp) (.tup (.of upd_same) (dpa_at (same_upd (sG.free hp)) a))⟩⟩
      | _ => cases e
    · refine ⟨_, rfl, k v G H (.refl sG) ?_⟩
      cases d with
      | list ds => cases e
      | _ => exact hd
/-! ### _law_is_count -/
abbrev s_law_is_count : Stmt := top 11
theorem sc_law_is_count : FnScope ["value"] ["value"] (defScope s_law_is_count) := ⟨rfl, rfl, rfl, by decide +kernel, rfl, by decide +kernel, by decide +kernel⟩
def spCount : Sp := fun vs H Q _ => ∃ n : Int, vs = [.int n] ∧ Q (.bl true) H
theorem ok_count {f : Addr} {fd : FuncData} (D : DefAt K mg "_law_is_count" s_law_is_count ["value"] f fd) (T : Bn mg) : FnOk P w K mg base CX0 1 f fd ["value"] spCount := by
  refine D.F.ok sc_law_is_count (fun vs H Q E h => ?_) (fun cdv A outer s H vs Q E hr h => ?_)
  · obtain ⟨n, rfl, _⟩ := h
    rfl
  · obtain ⟨n, rfl, k⟩ := h
    refine ⟨_, (pss_one (ps_ret (pe_and (pe_callB call_isi (by rfl) T.n_isinstance PyProof.Rows.boot_isinstance (pa_cons (pv 0) (pa_cons (pe_bltn (v := .ty "int") (by rfl) T.n_int PyProof.Rows.boot_int rfl) pa_nil))) (pe_one (pe_not (pe_callB call_isi (by rfl) T.n_isinstance PyProof.Rows.boot_isinstance (pa_cons (pv 0) (pa_cons (pe_bltn (v := .ty "bool") (by rfl) T.n_bool PyProof.Rows.boot_bool rfl) pa_nil)))))))), ?_⟩
    refine ⟨_, rfl, _, _, _, _, true, rfl, .ty "int", .base (.int n), kit_ty (by decide +kernel), _, rfl, ?_⟩
    exact ⟨_, rfl, _, _, _, _, false, rfl, .ty "bool", .base (.int n), kit_ty (by decide +kernel), _, rfl, k⟩
/-! ### _law_alike -/
abbrev s_law_alike : Stmt := top 19
theorem sc_law_alike : FnScope ["actual", "due"] ["actual", "due"] (defScope s_law_alike) := ⟨rfl, rfl, rfl, by decide +kernel, rfl, by decide +kernel, by decide +kernel⟩
def spAlike (K : PySem.W.Frag) : Sp := fun vs H Q _ => ∃ (a b : V) (d : PyData), vs = [a, b] ∧ Dp K H a d ∧ Dp K H b d ∧ Bd 20 100000 d ∧ Q (.bl true) H
theorem ok_alike {f : Addr} {fd : FuncData} (D : DefAt K mg "_law_alike" s_law_alike ["actual", "due"] f fd) (T : Bn mg) : FnG P w K mg base 1 f fd ["actual", "due"] (spAlike K) := by
  refine fnG_of D.F sc_law_alike (fun vs H Q E h => ?_) (fun cdv A outer s H vs Q E hgd hr h => ?_)
  · obtain ⟨a, b, d, rfl, _⟩ := h
    rfl
  · obtain ⟨a, b, d, rfl, ha, hb, hd, k⟩ := h
    refine ⟨_, (pss_one (ps_ret (pe_and (pe_cmpR op_eq (pe_callB call_isi (by rfl) T.n_isinstance PyProof.Rows.boot_isinstance (pa_cons (pv 0) (pa_cons (pe_bltn (v := .ty "tuple") (by rfl) T.n_tuple PyProof.Rows.boot_tuple rfl) pa_nil))) (pe_callB call_isi (by rfl) T.n_isinstance PyProof.Rows.boot_isinstance (pa_cons (pv 1) (pa_cons (pe_bltn (v := .ty "tuple") (by rfl) T.n_tuple PyProof.Rows.boot_tuple rfl) pa_nil))) (nomark _)) (pe_one (pe_cmpR op_eq (pe_callB (call_repr hgd hr.units) (by rfl) T.n_repr PyProof.Rows.boot_repr (pa_cons (pv 0) pa_nil)) (pe_callB (call_repr hgd hr.units) (by rfl) T.n_repr PyProof.Rows.boot_repr (pa_cons (pv 1) pa_nil)) (nomark _)))))), ?_⟩
    obtain ⟨t1, h1, h2⟩ := isi_tup ha
    obtain ⟨t2, h3, h4⟩ := isi_tup hb
    have hs := hd.shown (by decide)
    refine ⟨_, rfl, _, _, _, _, _, rfl, .ty "tuple", h1, h2, _, rfl, _, _, _, _, _, rfl, .ty "tuple", h3, h4, rfl, _, rfl, ?_⟩
    refine ite_yes (by simp) ?_
    refine ⟨_, rfl, a, d, rfl, ha, hd.s, hd.h, hd.e, hs, _, rfl, b, d, rfl, hb, hd.s, hd.h, hd.e, hs, rfl, ?_⟩
    have e : decide (V.str d.shown = V.str d.shown) = true := by simp
    rw [e]
    exact k
end
end B7
namespace B7
open PySem PySem.Spec PyProof.Rows L2
/-- where the draws come from -/
def BoxAt (K : PySem.W.Frag) (G H : Hp) (bx : Addr) : Prop := ∃ (bl : Addr) (i r c s : Int) (ns : List Int), H bx = some (.lst [.ref bl, .int i, .int r, .int c, .int s]) ∧ 0 ≤ i ∧ SqL K G bl (ns.map V.int) ∧ G bx = none
theorem BoxAt.mv {K : PySem.W.Frag} {G H G' H' : Hp} {bx : Addr} (b : BoxAt K G H bx) (s : Same G G') (e : H' bx = H bx) (n : G' bx = none) : BoxAt K G' H' bx := by
  obtain ⟨bl, i, r, c, t, ns, h1, h2, h3, h4⟩ := b
  exact ⟨bl, i, r, c, t, ns, e.trans h1, h2, seqL_at s h3, n⟩
theorem BoxAt.ne {K : PySem.W.Frag} {G H : Hp} {bx p : Addr} (b : BoxAt K G H bx) (hp : H p = none) : bx ≠ p := by
  obtain ⟨bl, i, r, c, t, ns, h1, _⟩ := b
  exact ne_of_none h1 hp
theorem BoxAt.up {K : PySem.W.Frag} {G H : Hp} {bx p : Addr} {o : HO} (b : BoxAt K G H bx) (hp : H p = none) : BoxAt K G (upd H p o) bx := b.mv (Same.refl _) (upd_ne (b.ne hp)) (by obtain ⟨_, _, _, _, _, _, _, _, _, h⟩ := b; exact h)
theorem BoxAt.gn {K : PySem.W.Frag} {G H : Hp} {bx : Addr} (b : BoxAt K G H bx) : G bx = none := by
  obtain ⟨_, _, _, _, _, _, _, _, _, h⟩ := b
  exact h
theorem BoxAt.up1 {K : PySem.W.Frag} {G H : Hp} {bx p : Addr} {o : HO} (b : BoxAt K G H bx) (s : Same G H) (hp : H p = none) : BoxAt K (upd G p o) (upd H p o) bx := b.mv (same_upd (s.free hp)) (upd_ne (b.ne hp)) (by rw [upd_ne (b.ne hp)]; exact b.gn)
theorem at_of {α : Type} {xs : List α} {i : Int} {v : α} (h0 : 0 ≤ i) (h : xs[i.toNat]? = some v) : atI xs i = some v := by
  have e : i = (i.toNat : Int) := by omega
  rw [e]
  exact atI_nat h
section
variable {P : Program} {w : World} {K : PySem.W.Frag} {mg : Str → Option Value} {base : Heap}
/-! ### _law_box -/
abbrev s_law_box : Stmt := top 9
theorem sc_law_box : FnScope ["script", "cell"] ["script"] (defScope s_law_box) := ⟨rfl, rfl, rfl, by decide +kernel, rfl, by decide +kernel, by decide +kernel⟩
def spBox (K : PySem.W.Frag) : Sp := fun vs H Q _ => ∃ (a : Addr) (ns : List Int), vs = [.ref a] ∧ SqL K H a (ns.map V.int) ∧ ns.length ≤ 1000 ∧ ∀ bx G' H', Gr Z0 H H G' H' → BoxAt K G' H' bx → Q (.ref bx) H'
theorem ok_box {f : Addr} {fd : FuncData} (D : DefAt K mg "_law_box" s_law_box ["script"] f fd) (T : Bn mg) : FnOk P w K mg base CX0 1 f fd ["script"] (spBox K) := by
  refine D.F.ok sc_law_box (fun vs H Q E h => ?_) (fun cdv A outer s H vs Q E hr h => ?_)
  · obtain ⟨a, ns, rfl, _⟩ := h
    rfl
  · obtain ⟨a, ns, rfl, hS, hl, k⟩ := h
    refine ⟨_, (pss_one (ps_ret (pe_lst (pa_cons (pe_lc (own := [("cell", 1)]) (g := gName 1) (tt := tYes) rfl sc_law_box.nd (pi_list (pe_slice sl_list (pv 0) po_none (po_some pe_int))) (blkOk_by (N := ["script", "cell"]) (sc := defScope s_law_box) (by decide +kernel)) (fun _ _ _ _ _ => (pg_name (i := 1) sc_law_box.nd rfl (Or.inl rfl))) (fun _ _ _ _ _ => pts_nil) (fun _ _ _ _ _ => (pe_callTy call_int1 (by rfl) T.n_int PyProof.Rows.boot_int (pa_cons (pv 1) pa_nil)))) (pa_cons pe_int (pa_cons pe_int (pa_cons pe_int (pa_cons pe_int pa_nil)))))))), ?_⟩
    refine ⟨_, rfl, _, rfl, a, _, rfl, hS, fun p hp => ?_⟩
    obtain ⟨ms, hms⟩ : ∃ ms : List Int, cutV (ns.map V.int) none (some 63) = ms.map V.int := by
      refine ⟨(ns.drop (HT.sIx (ns.map V.int).length 0 none)).take (HT.sIx (ns.map V.int).length (ns.map V.int).length (some 63) - HT.sIx (ns.map V.int).length 0 none), ?_⟩
      unfold cutV
      rw [List.map_take, List.map_drop]
    have hml : ms.length ≤ 1000 := by
      have := cutV_length (ns.map V.int) none (some 63)
      rw [hms, List.length_map, List.length_map] at this
      omega
    have hp1 : (upd H p (.lst (cutV (ns.map V.int) none (some 63)))) p = some (.lst (ms.map V.int)) := by rw [upd_same, hms]
    have g0 : Gr Z0 H H H (upd H p (.lst (cutV (ns.map V.int) none (some 63)))) := (Gr.refl (Same.refl H)).mk0 hp
    revert g0 hp1
    generalize upd H p (.lst (cutV (ns.map V.int) none (some 63))) = H1
    intro hp1 g0
    refine ⟨p, rfl, ⟨_, .of hp1⟩, fun L hL => ?_⟩
    have pL : p ≠ L := ne_of_none hp1 hL
    refine lc_list (K := K) (a := p) (xs := ms.map V.int) (fun i H2 => H2 L = some (.lst ((ms.take i).map V.int)) ∧ H2 p = some (.lst (ms.map V.int)) ∧ Gr Z0 H H H H2) ?_ ?_ ?_ ?_
    · exact ⟨upd_same, by rw [upd_ne pL]; exact hp1, g0.mk0 hL⟩
    · rintro i H2 hi ⟨_, h2, _⟩
      exact .of h2
    · rintro i x H2 hx ⟨h1, h2, g⟩
      rw [List.getElem?_map] at hx
      obtain ⟨z, ez, rfl⟩ := Option.map_eq_some_iff.mp hx
      refine ⟨rfl, _, rfl, .inl ⟨z, rfl, _, h1, ?_, ?_, ?_, ?_⟩⟩
      · rw [List.length_map, List.length_take, sizeLine_eq]; omega
      · rw [upd_same, take_snoc ez, List.map_append]; rfl
      · rw [upd_ne pL]; exact h2
      · exact g.chg (g0.old hL) (g0.old hL)
    · rintro H2 ⟨h1, h2, g⟩
      rw [List.length_map, List.take_length] at h1
      refine ⟨by show 5 ≤ sizeLine; rw [sizeLine_eq]; decide, fun bx hbx => ?_⟩
      have hL0 : H L = none := g0.old hL
      have g1 : Gr Z0 H H (upd H L (.lst (ms.map V.int))) H2 := g.safe hL0 h1 hL0
      refine k bx (upd H L (.lst (ms.map V.int))) _ (g1.mk0 hbx) ⟨L, 0, 0, 7, 0, ms, upd_same, Int.le_refl _, .of upd_same, g1.gnone hbx⟩
/-! ### _law_take -/
abbrev s_law_take : Stmt := top 10
theorem sc_law_take : FnScope ["box", "many", "state", "cell", "digit"] ["box", "many"] (defScope s_law_take) := ⟨rfl, rfl, rfl, by decide +kernel, rfl, by decide +kernel, by decide +kernel⟩
/-- the box on the way -/
structure BSt (G H : Hp) (bx bl : Addr) (H' : Hp) (i r c s : Int) : Prop where
  h : H' bx = some (.lst [.ref bl, .int i, .int r, .int c, .int s])
  i0 : 0 ≤ i
  g : Gr (ZB bx) G H G H'
theorem BSt.put {G H H' : Hp} {bx bl : Addr} {i r c s i' r' c' s' : Int} (b : BSt G H bx bl H' i r c s) (n : G bx = none) (hi : 0 ≤ i') : BSt G H bx bl (upd H' bx (.lst [.ref bl, .int i', .int r', .int c', .int s'])) i' r' c' s' := ⟨upd_same, hi, b.g.chgZ rfl n⟩
theorem BSt.up {G H H' : Hp} {bx bl p : Addr} {i r c s : Int} {o : HO} (b : BSt G H bx bl H' i r c s) (hp : H' p = none) : BSt G H bx bl (upd H' p o) i r c s := ⟨by rw [upd_ne (ne_of_none b.h hp)]; exact b.h, b.i0, b.g.mk0 hp⟩
theorem with_tail {t rest : TS} {D : Ends} {R : VK} {B C : L2.St → Hp → Prop} {σ : L2.St} {H : Hp} (Pv : L2.St → Hp → Prop) (h1 : ∀ σ H, Pv σ H → rest D σ H) (h2 : (∀ σ H, Pv σ H → rest D σ H) → t { D with nx := rest D } σ H) : (Ends.mk (tSeq t rest D) R B C).nx σ H := h2 h1
def spTake (K : PySem.W.Frag) : Sp := fun vs H Q _ => ∃ (bx : Addr) (many : Int) (G : Hp), vs = [.ref bx, .int many] ∧ 0 < many ∧ many < 1000 ∧ Same G H ∧ BoxAt K G H bx ∧ ∀ n H', 0 ≤ n → n < many → Gr (ZB bx) G H G H' → BoxAt K G H' bx → Q (.int n) H'
theorem ok_take {f : Addr} {fd : FuncData} (D : DefAt K mg "_law_take" s_law_take ["box", "many"] f fd) (T : Bn mg) : FnOk P w K mg base CX0 1 f fd ["box", "many"] (spTake K) := by
  refine D.F.ok sc_law_take (fun vs H Q E h => ?_) (fun cdv A outer s H vs Q E hr h => ?_)
  · obtain ⟨bx, many, G, rfl, _⟩ := h
    rfl
  · obtain ⟨bx, many, G, rfl, m0, m1, sG, hB, k⟩ := h
    refine ⟨_, (pss_cons (ps_asg (pe_op op_add (pe_ix ix_list (pv 0) pe_int (fun _ _ => rfl)) pe_int) (pg_sub (pv 0) pe_int set_list))
    (pss_cons (ps_par (i := 2) (j := 3) (by rfl) sc_law_take.nd rfl rfl (by decide) rfl rfl (pa_cons (pe_ix ix_list (pv 0) pe_int (fun _ _ => rfl)) (pa_cons pe_int pa_nil)) (by rfl))
    (pss_cons (ps_if (PW.pt (pw_and (pt_cmpR op_le (pe_ix ix_list (pv 0) pe_int (fun _ _ => rfl)) pe_int (nomark _)) (pw_and1 (pt_cmpR op_lt (pe_ix ix_list (pv 0) pe_int (fun _ _ => rfl)) (pe_callB call_len_seq (by rfl) T.n_len PySem.boot_len (pa_cons (pe_ix ix_list (pv 0) pe_int (fun _ _ => rfl)) pa_nil)) (nomark _)))))
      (pss_cons (ps_set (i := 3) sc_law_take.nd rfl (Or.inl rfl) (pe_ix ix_list (pe_ix ix_list (pv 0) pe_int (fun _ _ => rfl)) (pe_ix ix_list (pv 0) pe_int (fun _ _ => rfl)) (fun _ _ => rfl)))
      (pss_cons (ps_if (PW.pt (pw_or (pt_cmpR op_ge (pv 3) (pe_op op_pow pe_int pe_int) (nomark _)) (pw_or1 (pt_cmpR op_eq (pe_op op_mod (pe_callTy call_int1 (by rfl) T.n_int PyProof.Rows.boot_int (pa_cons (pe_ix ix_list (pv 0) pe_int (fun _ _ => rfl)) pa_nil)) pe_int) pe_int (nomark _)))))
        (pss_one (ps_asg (pe_op op_add (pe_ix ix_list (pv 0) pe_int (fun _ _ => rfl)) pe_int) (pg_sub (pv 0) pe_int set_list)))
        pss_nil)
      (pss_one (ps_if (pt_cmpR op_ge (pv 3) (pe_op op_pow pe_int pe_int) (nomark _))
        (pss_one (ps_asg (pe_tup (pa_cons (pv 3) (pa_cons pe_int pa_nil))) (pg_tup (by rfl) (pgs_cons (pg_sub (pv 0) pe_int set_list) (pgs_cons (pg_name (i := 3) sc_law_take.nd rfl (Or.inl rfl)) pgs_nil)))))
        pss_nil))))
      pss_nil)
    (pss_cons (ps_asg (pe_op op_mod (pe_callTy call_int1 (by rfl) T.n_int PyProof.Rows.boot_int (pa_cons (pe_op op_mul (pe_op op_add (pe_op op_add (pe_op op_add (pv 2) (pe_op op_mul (pv 3) pe_int)) (pe_op op_mul (pe_ix ix_list (pv 0) pe_int (fun _ _ => rfl)) pe_int)) pe_int) pe_int) pa_nil)) pe_int) (pg_sub (pv 0) pe_int set_list))
    (pss_cons (ps_if (pt_cmpR op_gt (pe_ix ix_list (pv 0) pe_int (fun _ _ => rfl)) pe_int (nomark _))
      (pss_cons (ps_set (i := 4) sc_law_take.nd rfl (Or.inl rfl) (pe_op op_mod (pe_callTy call_int1 (by rfl) T.n_int PyProof.Rows.boot_int (pa_cons (pe_ix ix_list (pv 0) pe_int (fun _ _ => rfl)) pa_nil)) (pv 1)))
      (pss_cons (ps_asg (pe_op op_fdiv (pe_ix ix_list (pv 0) pe_int (fun _ _ => rfl)) (pv 1)) (pg_sub (pv 0) pe_int set_list))
      (pss_one (ps_ret (pv 4)))))
      pss_nil)
    (pss_one (ps_ret (pe_op op_mod (pe_op op_fdiv (pe_op op_mod (pe_callTy call_int1 (by rfl) T.n_int PyProof.Rows.boot_int (pa_cons (pe_op op_mul (pe_ix ix_list (pv 0) pe_int (fun _ _ => rfl)) pe_int) pa_nil)) pe_int) pe_int) (pv 1))))))))), ?_⟩
    obtain ⟨bl, i, r, c, st, ns, hb, i0, hq, gn⟩ := hB
    have b0 : BSt G H bx bl H i r c st := ⟨hb, i0, .refl sG⟩
    -- box[3] = box[3] + 1
    refine ⟨_, rfl, bx, _, _, _, rfl, rfl, .of hb, rfl, _, _, rfl, rfl, _, rfl, bx, _, _, _, rfl, rfl, hb, rfl, ?_⟩
    have b1 := b0.put (r' := r) (c' := c + 1) (s' := st) gn i0
    have hs : SqL K H bl (ns.map V.int) := seqL_at sG hq
    -- state, cell = box[4], 0
    refine ⟨_, rfl, bx, _, _, _, rfl, rfl, .of b1.h, rfl, _, _, rfl, ?_⟩
    refine with_tail (fun σ' H' => ∃ cell i r c s, σ' = [some (.ref bx), some (.int many), some (.int st), some (.int cell), none] ∧ BSt G H bx bl H' i r c s) ?_ ?_
    · -- box[4] = ..
      rintro σ' H' ⟨cell, i, r, c, s4, rfl, b⟩
      refine ⟨_, rfl, _, rfl, _, _, rfl, rfl, .inr (by decide), _, _, rfl, rfl, _, rfl, bx, _, _, _, rfl, rfl, .of b.h, rfl, _, _, rfl, rfl, .inr (by decide), _, _, rfl, rfl, _, _, rfl, rfl, _, _, rfl, rfl, .inr (by decide), .inl ⟨_, rfl, _, _, rfl, rfl, (by show (0 : Int) < 2147483647; decide), _, rfl, bx, _, _, _, rfl, rfl, b.h, rfl, ?_⟩⟩
      have b2 := b.put (r' := r) (c' := c) (s' := (st + cell * 69621 + c * 7919 + 12345) * 48271 % 2147483647) gn b.i0
      refine ⟨_, rfl, bx, _, _, _, rfl, rfl, .of b2.h, rfl, _, _, rfl, rfl, _, rfl, ?_⟩
      have fin : ∀ {H' : Hp} {i r c s : Int}, BSt G H bx bl H' i r c s → BoxAt K G H' bx := fun b => ⟨bl, _, _, _, _, ns, b.h, b.i0, hq, gn⟩
      refine ite_b (fun _ => ?_) fun _ => ?_
      · refine ⟨_, rfl, bx, _, _, _, rfl, rfl, .of b2.h, rfl, .inl ⟨_, rfl, _, rfl, _, _, rfl, rfl, m0, ?_⟩⟩
        refine ⟨_, rfl, bx, _, _, _, rfl, rfl, .of b2.h, rfl, _, rfl, _, _, rfl, rfl, ⟨m0, by omega⟩, _, rfl, bx, _, _, _, rfl, rfl, b2.h, rfl, _, rfl, ?_⟩
        have b3 := b2.put (r' := r / many) (c' := c) (s' := (st + cell * 69621 + c * 7919 + 12345) * 48271 % 2147483647) gn b2.i0
        exact k _ _ (Int.emod_nonneg _ (by omega)) (Int.emod_lt_of_pos _ m0) b3.g (fin b3)
      · refine ⟨_, rfl, bx, _, _, _, rfl, rfl, .of b2.h, rfl, _, _, rfl, rfl, .inr (by decide), .inl ⟨_, rfl, _, _, rfl, rfl, (by show (0 : Int) < 2147483647; decide), _, _, rfl, rfl, (by constructor <;> decide), _, rfl, _, _, rfl, rfl, m0, ?_⟩⟩
        exact k _ _ (Int.emod_nonneg _ (by omega)) (Int.emod_lt_of_pos _ m0) b2.g (fin b2)
    · intro tail
      -- if box[2] <= 0 and box[1] < len(box[0])
      refine ⟨_, rfl, bx, _, _, _, rfl, rfl, .of b1.h, rfl, _, _, rfl, rfl, _, rfl, ?_⟩
      refine ite_b (fun _ => ?_) fun _ => ?_
      · refine ⟨_, rfl, bx, _, _, _, rfl, rfl, .of b1.h, rfl, _, rfl, bx, _, _, _, rfl, rfl, .of b1.h, rfl, bl, _, rfl, .inl (seqL_at b1.g.sub hq), _, _, rfl, rfl, _, rfl, ?_⟩
        refine ite_b (fun e2 => ?_) fun _ => ?_
        · have hi : i.toNat < ns.length := by
            have := of_decide_eq_true e2
            rw [List.length_map] at this
            omega
          -- cell = box[0][box[1]]
          refine ⟨_, rfl, bx, _, _, _, rfl, rfl, .of b1.h, rfl, _, rfl, bx, _, _, _, rfl, rfl, .of b1.h, rfl, bl, _, _, _, rfl, rfl, seqL_at b1.g.sub hq, at_of (v := .int ns[i.toNat]) i0 (by rw [List.getElem?_map, List.getElem?_eq_getElem hi]; rfl), ?_⟩
          generalize ns[i.toNat] = cell
          refine with_tail (fun σ' H' => ∃ i', σ' = [some (.ref bx), some (.int many), some (.int st), some (.int cell), none] ∧ BSt G H bx bl H' i' r (c + 1) st) ?_ ?_
          · rintro σ' H' ⟨i', rfl, b⟩
            refine ⟨_, rfl, _, _, rfl, rfl, (by refine ⟨?_, ?_, ?_⟩ <;> decide), _, _, rfl, rfl, _, rfl, ?_⟩
            refine ite_b (fun _ => ?_) fun _ => ?_
            · refine ⟨_, rfl, by show 2 ≤ sizeLine; rw [sizeLine_eq]; decide, fun p hp => ?_⟩
              have b2 := b.up (o := .tup [.int cell, .int 0]) hp
              refine ⟨p, _, rfl, .of upd_same, rfl, _, _, rfl, ⟨_, rfl, bx, _, _, _, rfl, rfl, b2.h, rfl, _, _, rfl, rfl, ?_⟩⟩
              exact tail _ _ ⟨0, i', cell, c + 1, st, rfl, b2.put gn b2.i0⟩
            · exact tail _ _ ⟨cell, i', r, c + 1, st, rfl, b⟩
          · intro tail2
            refine ⟨_, rfl, _, _, rfl, rfl, (by refine ⟨?_, ?_, ?_⟩ <;> decide), _, _, rfl, rfl, _, rfl, ?_⟩
            have b2 := b1.put (i' := i + 1) (r' := r) (c' := c + 1) (s' := st) gn (by omega)
            refine ite_b (fun _ => ?_) fun _ => ?_
            · exact iteT ⟨_, rfl, bx, _, _, _, rfl, rfl, .of b1.h, rfl, _, _, rfl, rfl, _, rfl, bx, _, _, _, rfl, rfl, b1.h, rfl, tail2 _ _ ⟨i + 1, rfl, b2⟩⟩
            · refine ⟨_, rfl, bx, _, _, _, rfl, rfl, .of b1.h, rfl, .inl ⟨_, rfl, _, _, rfl, rfl, (by show (0 : Int) < 3; decide), rfl, _, rfl, ?_⟩⟩
              refine ite_b (fun _ => ?_) fun _ => ?_
              · exact ⟨_, rfl, bx, _, _, _, rfl, rfl, .of b1.h, rfl, _, _, rfl, rfl, _, rfl, bx, _, _, _, rfl, rfl, b1.h, rfl, tail2 _ _ ⟨i + 1, rfl, b2⟩⟩
              · exact tail2 _ _ ⟨i, rfl, b1⟩
        · exact tail _ _ ⟨0, i, r, c + 1, st, rfl, b1⟩
      · exact tail _ _ ⟨0, i, r, c + 1, st, rfl, b1⟩
end
end B7
namespace B7
open PySem PySem.Spec PyProof.Rows L2
def AnyD (d : PyData) : Prop := Bd 2 12 d ∧ isLst d = false
def RowD (d : PyData) : Prop := Bd 3 60 d
/-- a def that draws a datum -/
def spDraw (K : PySem.W.Frag) (AD : PyData → Prop) : Sp := fun vs H Q _ => ∃ (bx : Addr) (G : Hp), vs = [.ref bx] ∧ Same G H ∧ BoxAt K G H bx ∧ ∀ v d G' H', Gr (ZB bx) G H G' H' → BoxAt K G' H' bx → AD d → Dp K G' v d → Q v H'
theorem BoxAt.gr {K : PySem.W.Frag} {G H G' H' : Hp} {bx : Addr} (b : BoxAt K G H bx) (s : Same G G') (n : G' bx = none) (e : H' bx = H bx) : BoxAt K G' H' bx := b.mv s e n
/-- [draw(box) for k in range(n)] -/
theorem lc_draws {K : PySem.W.Frag} {AD : PyData → Prop} {bx : Addr} {n i : Nat} {te : TE} {vs : List Nat} {σ : L2.St} {G H : Hp} {D : Addr} {Qd : Hp → Prop} (hD : H D = none) (hn : n ≤ 100) (sG : Same G H) (hB : BoxAt K G H bx) (hw : ∀ x, wipe ((wipe σ vs).set i (some x)) vs = wipe σ vs)
    (hte : ∀ (x : V) (H2 : Hp) (R : VK) (G2 : Hp), Same G2 H2 → BoxAt K G2 H2 bx → (∀ v d G' H', Gr (ZB bx) G2 H2 G' H' → BoxAt K G' H' bx → AD d → Dp K G' v d → R v H') → te ((wipe σ vs).set i (some x)) H2 R)
    (hq : ∀ (acc : List V) (ds : List PyData) (G' H' : Hp), Gr (ZB bx) G H G' H' → BoxAt K G' H' bx → G' D = some (.lst acc) → DpAll K G' acc ds → ds.length = n → (∀ d ∈ ds, AD d) → Qd H') :
    ∃ W : Nat → Nat → Hp → Prop, (∃ m, W 0 m (upd H D (.lst []))) ∧ ∀ i' m H', W i' m H' →
      ((Itr 0 (n : Int).toNat).stop i' H' ∧ Qd H') ∨ ((Itr 0 (n : Int).toNat).go i' H' ∧ ∃ Nx : Hp → Prop, (∀ H'', Nx H'' → ∃ m', m' < m ∧ W (i' + 1) m' H'') ∧ ∀ x H'', (Itr 0 (n : Int).toNat).yld i' H' x H'' → gName i x (wipe σ vs) H'' fun σ2 H2 => wipe σ2 vs = wipe σ vs ∧ tYes σ2 H2 fun b H3 =>
        if b = true then te σ2 H3 fun y H4 => ∃ acc, H4 D = some (.lst acc) ∧ acc.length < sizeLine ∧ Nx (upd H4 D (.lst (acc ++ [y]))) else Nx H3) := by
  have nD := hB.ne hD
  rw [Int.toNat_natCast]
  refine lc_range (fun j H2 => ∃ G2 acc ds, H2 D = some (.lst acc) ∧ G2 D = none ∧ acc.length = j ∧ Gr (ZB bx) G H G2 H2 ∧ DpAll K G2 acc ds ∧ (∀ d ∈ ds, AD d) ∧ BoxAt K G2 H2 bx) ?_ ?_ ?_
  · exact ⟨G, [], [], upd_same, sG.free hD, rfl, (Gr.refl sG).mk0 hD, .nil, (fun d hd => by cases hd), hB.up hD⟩
  · rintro j H2 hj ⟨G2, acc, ds, h1, h2, h3, g, hA, hds, b⟩
    refine ⟨hw _, hte _ H2 _ G2 g.sub b fun v d G3 H3 g3 b3 hd hv => ?_⟩
    have h13 : H3 D = some (.lst acc) := g3.sH D _ h1 (fun z => nD z.symm)
    have g3n : G3 D = none := g3.non D (by rw [h1]; simp) h2
    refine ⟨acc, h13, by rw [h3, sizeLine_eq]; omega, G3, acc ++ [v], ds ++ [d], upd_same, g3n, by simp [h3], (g.trans g3).chg hD g3n, dpa_snoc (dpa_at g3.sG hA) hv, ?_, b3.mv (Same.refl _) (upd_ne nD) b3.gn⟩
    intro d' hd'
    rcases List.mem_append.mp hd' with q | q
    · exact hds d' q
    · rw [List.mem_singleton.mp q]; exact hd
  · rintro H2 ⟨G2, acc, ds, h1, h2, h3, g, hA, hds, b⟩
    refine hq acc ds (upd G2 D (.lst acc)) H2 (g.safe hD h1 h2) (b.mv (same_upd h2) rfl (by rw [upd_ne nD]; exact b.gn)) upd_same (dpa_at (same_upd h2) hA) ?_ hds
    rw [← dpa_len hA, h3]
section
variable {P : Program} {w : World} {K : PySem.W.Frag} {mg : Str → Option Value} {base : Heap}
/-! ### _law_anything -/
abbrev s_law_anything : Stmt := top 12
theorem sc_law_anything : FnScope ["box", "pick", "number"] ["box"] (defScope s_law_anything) := ⟨rfl, rfl, rfl, by decide +kernel, rfl, by decide +kernel, by decide +kernel⟩
theorem nat_of {n m : Int} (h0 : 0 ≤ n) (h1 : n < m) : ∃ j : Nat, n = j ∧ (j : Int) < m := ⟨n.toNat, by omega, by omega⟩
theorem ok_anything {f f1 : Addr} {fd fd1 : FuncData} (D : DefAt K mg "_law_anything" s_law_anything ["box"] f fd) (D1 : DefAt K mg "_law_take" s_law_take ["box", "many"] f1 fd1) (T : Bn mg) : FnOk P w K mg base CX0 2 f fd ["box"] (spDraw K AnyD) := by
  have G_take : FnOk P w K mg base CX0 1 f1 fd1 ["box", "many"] (spTake K) := ok_take D1 T
  refine D.F.ok sc_law_anything (fun vs H Q E h => ?_) (fun cdv A outer s H vs Q E hr h => ?_)
  · obtain ⟨bx, G, rfl, _⟩ := h
    rfl
  · obtain ⟨bx, G, rfl, sG, hB, k⟩ := h
    refine ⟨_, (pss_cons (ps_par (i := 1) (j := 2) (by rfl) sc_law_anything.nd rfl rfl (by decide) rfl rfl (pa_cons (pe_call G_take hr rfl D1.m D1.F.kp D1.b .nil pass0 (pa_cons (pv 0) (pa_cons pe_int pa_nil))) (pa_cons (pe_op op_sub (pe_call G_take hr rfl D1.m D1.F.kp D1.b .nil pass0 (pa_cons (pv 0) (pa_cons pe_int pa_nil))) pe_int) pa_nil)) (by rfl))
    (pss_one (ps_ret (pe_ix ix_list (pe_lst (pa_cons (pv 2) (pa_cons pe_bl (pa_cons pe_non (pa_cons (pe_op op_mulS pe_str (pe_callTy call_int1 (by rfl) T.n_int PyProof.Rows.boot_int (pa_cons (pe_cmpR op_gt (pv 1) pe_int (nomark _)) pa_nil))) (pa_cons (pe_tup (pa_cons (pv 2) (pa_cons (pe_op op_add pe_int (pe_callB call_abs (by rfl) T.n_abs PyProof.Rows.boot_abs (pa_cons (pv 2) pa_nil))) pa_nil))) (pa_cons (pe_tup (pa_cons (pe_tup (pa_cons (pv 2) pa_nil)) (pa_cons pe_str (pa_cons pe_non pa_nil)))) (pa_cons pe_str (pa_cons (pe_tup pa_nil) (pa_cons pe_bl pa_nil)))))))))) (pv 1) (fun _ _ => rfl))))), ?_⟩
    refine ⟨_, rfl, bx, 9, G, rfl, by decide, by decide, sG, hB, fun pick H1 p0 p1 g1 b1 => ?_⟩
    refine ⟨_, rfl, bx, 50, G, rfl, by decide, by decide, g1.sub, b1, fun num H2 n0 n1 g2 b2 => ?_⟩
    have g := g1.trans g2
    obtain ⟨j, rfl, hj⟩ := nat_of p0 p1
    refine ⟨_, _, rfl, rfl, _, _, rfl, ?_⟩
    refine ⟨_, rfl, _, rfl, _, _, rfl, rfl, .inr ⟨_, rfl, Str.ofString "row", _, rfl, rfl, ?_, _, rfl, _, rfl, _, rfl, _, _, rfl, rfl, by show 2 ≤ sizeLine; rw [sizeLine_eq]; decide, fun t1 h1 => ?_⟩⟩
    · split <;> simp
    have g3 := g.mk1 (o := .tup [.int (num - 20), .int (1 + if num - 20 < 0 then -(num - 20) else num - 20)]) h1
    have b3 := b2.up1 (o := .tup [.int (num - 20), .int (1 + if num - 20 < 0 then -(num - 20) else num - 20)]) g.sub h1
    refine ⟨_, rfl, by show 1 ≤ sizeLine; rw [sizeLine_eq]; decide, fun t2 h2 => ⟨by show 3 ≤ sizeLine; rw [sizeLine_eq]; decide, fun t3 h3 => ⟨by show 0 ≤ sizeLine; rw [sizeLine_eq]; decide, fun t4 h4 => ⟨by show 9 ≤ sizeLine; rw [sizeLine_eq]; decide, fun L hL => ?_⟩⟩⟩⟩
    have g4 := g3.mk1 (o := .tup [.int (num - 20)]) h2
    have b4 := b3.up1 (o := .tup [.int (num - 20)]) g3.sub h2
    have g5 := g4.mk1 (o := .tup [.ref t2, .str "a", .non]) h3
    have b5 := b4.up1 (o := .tup [.ref t2, .str "a", .non]) g4.sub h3
    have g6 := g5.mk1 (o := .tup []) h4
    have b6 := b5.up1 (o := .tup []) g5.sub h4
    have g7 := g6.mk0 (o := .lst [.int (num - 20), .bl true, .non, .str (if (if decide (3 < (j : Int)) = true then (1 : Int) else 0) = 0 then Str.empty else Str.ofString "row"), .ref t1, .ref t3, .str "1/2", .ref t4, .bl false]) hL
    have b7 := b6.up (o := .lst [.int (num - 20), .bl true, .non, .str (if (if decide (3 < (j : Int)) = true then (1 : Int) else 0) = 0 then Str.empty else Str.ofString "row"), .ref t1, .ref t3, .str "1/2", .ref t4, .bl false]) hL
    have i1 : Bd 0 0 (.int (num - 20)) := .int (by omega) (by omega)
    have i2 : Bd 0 0 (.int (1 + if num - 20 < 0 then -(num - 20) else num - 20)) := .int (by split <;> omega) (by split <;> omega)
    have sa : Bd 0 3 (.str "a") := .str (by decide +kernel) (by decide +kernel)
    have s12 : Bd 0 3 (.str "1/2") := .str (by decide +kernel) (by decide +kernel)
    have srow : Bd 0 3 (.str (if (if decide (3 < (j : Int)) = true then (1 : Int) else 0) = 0 then Str.empty else Str.ofString "row")) := by
      split
      · exact .str (by decide +kernel) (by decide +kernel)
      · exact .str (by decide +kernel) (by decide +kernel)
    have al : DpAll K (upd (upd (upd (upd G t1 (.tup [.int (num - 20), .int (1 + if num - 20 < 0 then -(num - 20) else num - 20)])) t2 (.tup [.int (num - 20)])) t3 (.tup [.ref t2, .str "a", .non])) t4 (.tup [])) [.int (num - 20), .bl true, .non, .str (if (if decide (3 < (j : Int)) = true then (1 : Int) else 0) = 0 then Str.empty else Str.ofString "row"), .ref t1, .ref t3, .str "1/2", .ref t4, .bl false]
        [.int (num - 20), .bool true, .none, .str (if (if decide (3 < (j : Int)) = true then (1 : Int) else 0) = 0 then Str.empty else Str.ofString "row"), .tuple [.int (num - 20), .int (1 + if num - 20 < 0 then -(num - 20) else num - 20)], .tuple [.tuple [.int (num - 20)], .str "a", .none], .str "1/2", .tuple [], .bool false] := by
      have d1 := (Dp.tup (K := K) (H := upd G t1 (.tup [.int (num - 20), .int (1 + if num - 20 < 0 then -(num - 20) else num - 20)])) (.of upd_same) (.cons (.int _) (.cons (.int _) .nil)))
      have d2 := (Dp.tup (K := K) (H := upd (upd G t1 (.tup [.int (num - 20), .int (1 + if num - 20 < 0 then -(num - 20) else num - 20)])) t2 (.tup [.int (num - 20)])) (.of upd_same) (.cons (.int _) .nil))
      have s3 := same_upd (o := .tup [.ref t2, .str "a", .non]) (g4.gnone h3)
      have s4 := same_upd (o := .tup []) (g5.gnone h4)
      have s2 := same_upd (o := .tup [.int (num - 20)]) (g3.gnone h2)
      exact .cons (.int _) (.cons (.bl _) (.cons .non (.cons (.str _) (.cons (dp_at ((s2.trans s3).trans s4) d1) (.cons (dp_at s4 (.tup (.of upd_same) (.cons (dp_at s3 d2) (.cons (.str _) (.cons .non .nil))))) (.cons (.str _) (.cons (.tup (.of upd_same) .nil) (.cons (.bl _) .nil))))))))
    have hAll : ∀ d ∈ [PyData.int (num - 20), .bool true, .none, .str (if (if decide (3 < (j : Int)) = true then (1 : Int) else 0) = 0 then Str.empty else Str.ofString "row"), .tuple [.int (num - 20), .int (1 + if num - 20 < 0 then -(num - 20) else num - 20)], .tuple [.tuple [.int (num - 20)], .str "a", .none], .str "1/2", .tuple [], .bool false], AnyD d := by
      intro d hd
      simp only [List.mem_cons, List.not_mem_nil, or_false] at hd
      rcases hd with rfl | rfl | rfl | rfl | rfl | rfl | rfl | rfl | rfl
      · exact ⟨i1.mono (by decide) (by decide), rfl⟩
      · exact ⟨(Bd.bool _).mono (by decide) (by decide), rfl⟩
      · exact ⟨Bd.none.mono (by decide) (by decide), rfl⟩
      · exact ⟨srow.mono (by decide) (by decide), rfl⟩
      · refine ⟨(Bd.tup (n := 0) (m := 0) (k := 12) ?_ (by simp)).mono (by decide) (by decide), rfl⟩
        intro d hd
        simp only [List.mem_cons, List.not_mem_nil, or_false] at hd
        rcases hd with rfl | rfl
        · exact i1
        · exact i2
      · refine ⟨Bd.tup (n := 1) (m := 3) ?_ (by simp), rfl⟩
        intro d hd
        simp only [List.mem_cons, List.not_mem_nil, or_false] at hd
        rcases hd with rfl | rfl | rfl
        · refine (Bd.tup (n := 0) (m := 0) (k := 3) ?_ (by simp))
          intro d hd
          simp only [List.mem_cons, List.not_mem_nil, or_false] at hd
          subst hd
          exact i1
        · exact sa.mono (by decide) (by decide)
        · exact Bd.none.mono (by decide) (by decide)
      · exact ⟨s12.mono (by decide) (by decide), rfl⟩
      · exact ⟨(Bd.tup (n := 0) (m := 0) (k := 0) (fun d hd => by cases hd) (by simp)).mono (by decide) (by decide), rfl⟩
      · exact ⟨(Bd.bool _).mono (by decide) (by decide), rfl⟩
    have hjl : j < 9 := by omega
    have hget : ∃ x, [V.int (num - 20), .bl true, .non, .str (if (if decide (3 < (j : Int)) = true then (1 : Int) else 0) = 0 then Str.empty else Str.ofString "row"), .ref t1, .ref t3, .str "1/2", .ref t4, .bl false][j]? = some x := ⟨_, List.getElem?_eq_getElem hjl⟩
    obtain ⟨x, hx⟩ := hget
    obtain ⟨d, hd, hv⟩ := dpa_get al hx
    exact ⟨_, rfl, L, _, _, _, rfl, rfl, .of upd_same, atI_nat hx, k x d _ _ g7 b7 (hAll d (List.mem_of_getElem? hd)) hv⟩
end
end B7
namespace B7
open PySem PySem.Spec PyProof.Rows L2
theorem AnyD.lst {ds : List PyData} {n : Nat} (h : ∀ d ∈ ds, AnyD d) (hl : ds.length ≤ n) (hn : n ≤ 4) : RowD (.list ds) := Bd.lst (fun d q => (h d q).1) (by
  have : ds.length * (12 + 1) ≤ 4 * (12 + 1) := Nat.mul_le_mul_right _ (Nat.le_trans hl hn)
  omega)
theorem AnyD.tup {ds : List PyData} {n : Nat} (h : ∀ d ∈ ds, AnyD d) (hl : ds.length ≤ n) (hn : n ≤ 4) : RowD (.tuple ds) := Bd.tup (fun d q => (h d q).1) (by
  have : ds.length * (12 + 1) ≤ 4 * (12 + 1) := Nat.mul_le_mul_right _ (Nat.le_trans hl hn)
  omega)
section
variable {P : Program} {w : World} {K : PySem.W.Frag} {mg : Str → Option Value} {base : Heap}
/-! ### _law_row -/
abbrev s_law_row : Stmt := top 13
theorem sc_law_row : FnScope ["box", "pick", "inner", "k"] ["box"] (defScope s_law_row) := ⟨rfl, rfl, rfl, by decide +kernel, rfl, by decide +kernel, by decide +kernel⟩
theorem ok_row {f f1 f2 : Addr} {fd fd1 fd2 : FuncData} (D : DefAt K mg "_law_row" s_law_row ["box"] f fd) (D1 : DefAt K mg "_law_take" s_law_take ["box", "many"] f1 fd1) (D2 : DefAt K mg "_law_anything" s_law_anything ["box"] f2 fd2) (T : Bn mg) : FnOk P w K mg base CX0 3 f fd ["box"] (spDraw K RowD) := by
  have G_take : FnOk P w K mg base CX0 1 f1 fd1 ["box", "many"] (spTake K) := ok_take D1 T
  have G_anything : FnOk P w K mg base CX0 2 f2 fd2 ["box"] (spDraw K AnyD) := ok_anything D2 D1 T
  refine D.F.ok sc_law_row (fun vs H Q E h => ?_) (fun cdv A outer s H vs Q E hr h => ?_)
  · obtain ⟨bx, G, rfl, _⟩ := h
    rfl
  · obtain ⟨bx, G, rfl, sG, hB, k⟩ := h
    refine ⟨_, (pss_cons (ps_set (i := 1) sc_law_row.nd rfl (Or.inl rfl) (pe_call G_take (hr.mono (by decide)) rfl D1.m D1.F.kp D1.b .nil pass0 (pa_cons (pv 0) (pa_cons pe_int pa_nil))))
    (pss_cons (ps_setLc (i := 2) (own := [("k", 3)]) (g := gName 3) (tt := tYes) rfl sc_law_row.nd rfl rfl (sw_true rfl rfl rfl (by decide +kernel)) (pi_range1 (by rfl) T.n_range (pa_cons (pe_call G_take (hr.mono (by decide)) rfl D1.m D1.F.kp D1.b .nil pass0 (pa_cons (pv 0) (pa_cons pe_int pa_nil))) pa_nil)) (blkOk_by (N := ["box", "pick", "inner", "k"]) (sc := defScope s_law_row) (by decide +kernel)) (fun _ _ _ _ _ => (pg_name (i := 3) sc_law_row.nd rfl (Or.inl rfl))) (fun _ _ _ _ _ => pts_nil) (fun _ _ _ _ _ => (pe_call G_anything hr rfl D2.m D2.F.kp D2.b .nil pass0 (pa_cons (pv 0) pa_nil))))
    (pss_one (ps_ret (pe_ix ix_list (pe_lst (pa_cons (pv 2) (pa_cons (pe_callTy call_tuple_of (by rfl) T.n_tuple PyProof.Rows.boot_tuple (pa_cons (pv 2) pa_nil)) (pa_cons (pe_callTy call_list_of (by rfl) T.n_list PyProof.Rows.boot_list (pa_cons (pv 2) pa_nil)) (pa_cons pe_str (pa_cons pe_non pa_nil)))))) (pv 1) (fun _ _ => rfl)))))), ?_⟩
    refine ⟨_, rfl, bx, 5, G, rfl, by decide, by decide, sG, hB, fun pick H1 p0 p1 g1 b1 => ?_⟩
    refine ⟨_, rfl, bx, 4, G, rfl, by decide, by decide, g1.sub, b1, fun n H2 n0 n1 g2 b2 => ?_⟩
    obtain ⟨j, rfl, hj⟩ := nat_of p0 p1
    obtain ⟨n, rfl, hn⟩ := nat_of n0 n1
    refine ⟨_, rfl, by omega, by omega, fun Dn hDn => ?_⟩
    refine lc_draws (K := K) (AD := AnyD) (bx := bx) (n := n) (i := 3) (vs := [3]) (σ := [some (.ref bx), some (.int j), none, none]) hDn (by omega) g2.sub b2 (fun _ => rfl) ?_ ?_
    · exact fun x H3 R G3 s3 b3 q => ⟨_, rfl, bx, G3, rfl, s3, b3, q⟩
    · intro acc ds G3 H3 g3 b3 hL hA hl hds
      have g := (g1.trans g2).trans g3
      refine ⟨_, rfl, _, rfl, Dn, acc, rfl, .inl ⟨.of (g.sub _ _ hL), fun t ht => ?_⟩⟩
      have g4 := g.mk1 (o := .tup acc) ht
      have b4 := b3.up1 (o := .tup acc) g.sub ht
      refine ⟨_, rfl, Dn, acc, rfl, .inl (.of (same_upd ht _ _ (g.sub _ _ hL))), fun l hl2 => ?_⟩
      have g5 := g4.mk1 (o := .lst acc) hl2
      have b5 := b4.up1 (o := .lst acc) g4.sub hl2
      refine ⟨by show 5 ≤ sizeLine; rw [sizeLine_eq]; decide, fun L hLL => ?_⟩
      have g6 := g5.mk0 (o := .lst [.ref Dn, .ref t, .ref l, .str "rows", .non]) hLL
      have b6 := b5.up (o := .lst [.ref Dn, .ref t, .ref l, .str "rows", .non]) hLL
      have s4 := same_upd (o := .tup acc) (g.gnone ht)
      have s5 := same_upd (o := .lst acc) (g4.gnone hl2)
      have al : DpAll K (upd (upd G3 t (.tup acc)) l (.lst acc)) [.ref Dn, .ref t, .ref l, .str "rows", .non] [.list ds, .tuple ds, .list ds, .str "rows", .none] :=
        .cons (.lst (.of (s5 _ _ (s4 _ _ hL))) (dpa_at (s4.trans s5) hA)) (.cons (dp_at s5 (.tup (.of upd_same) (dpa_at s4 hA))) (.cons (.lst (.of upd_same) (dpa_at (s4.trans s5) hA)) (.cons (.str _) (.cons .non .nil))))
      have hAll : ∀ d ∈ [PyData.list ds, .tuple ds, .list ds, .str "rows", .none], RowD d := by
        intro d hd
        simp only [List.mem_cons, List.not_mem_nil, or_false] at hd
        rcases hd with rfl | rfl | rfl | rfl | rfl
        · exact AnyD.lst hds (Nat.le_of_eq hl) (by omega)
        · exact AnyD.tup hds (Nat.le_of_eq hl) (by omega)
        · exact AnyD.lst hds (Nat.le_of_eq hl) (by omega)
        · exact (Bd.str (m := 60) (by decide +kernel) (by decide +kernel)).mono (by decide) (by decide)
        · exact Bd.none.mono (by decide) (by decide)
      have hjl : j < 5 := by omega
      obtain ⟨x, hx⟩ : ∃ x, [V.ref Dn, .ref t, .ref l, .str "rows", .non][j]? = some x := ⟨_, List.getElem?_eq_getElem hjl⟩
      obtain ⟨d, hd, hv⟩ := dpa_get al hx
      exact ⟨_, rfl, L, _, _, _, rfl, rfl, .of upd_same, atI_nat hx, k x d _ _ g6 b6 (hAll d (List.mem_of_getElem? hd)) hv⟩
end
/-! ### what is drawn -/
structure Cont where
  word : Str
  lists : Bool
  one : List PyData
  two : List PyData
  lines : List PyData
  fst : PyData
  snd : PyData
  thd : PyData
structure Cont.Ok (c : Cont) : Prop where
  w : Bd 0 12 (.str c.word)
  l1 : c.one.length ≤ 6
  l2 : c.two.length = c.one.length
  l3 : c.lines.length = c.one.length
  a1 : ∀ d ∈ c.one, AnyD d
  a2 : ∀ d ∈ c.two, AnyD d
  a3 : ∀ d ∈ c.lines, RowD d
  f1 : AnyD c.fst
  f2 : AnyD c.snd
  f3 : AnyD c.thd
def HasD (K : PySem.W.Frag) (G : Hp) (kvs : List (Key × V)) (key : Str) (d : PyData) : Prop := ∃ v, valV kvs (.inr key : Key) = some v ∧ Dp K G v d
/-- a tracked list of data (whether it may change or not) -/
def HasL (K : PySem.W.Frag) (G : Hp) (kvs : List (Key × V)) (key : Str) (ds : List PyData) : Prop := HasD K G kvs key (.list ds)
structure DrawnAt (K : PySem.W.Frag) (G : Hp) (dr : Addr) (c : Cont) : Prop where
  ex : ∃ kvs, G dr = some (.dK kvs) ∧ kvs.length ≤ 20 ∧ HasD K G kvs "word" (.str c.word) ∧ HasD K G kvs "lists" (.bool c.lists) ∧ HasL K G kvs "one" c.one ∧ HasL K G kvs "two" c.two ∧ HasL K G kvs "lines" c.lines ∧ HasD K G kvs "first" c.fst ∧ HasD K G kvs "second" c.snd ∧ HasD K G kvs "third" c.thd
theorem HasD.at_ {K : PySem.W.Frag} {G G' : Hp} {kvs : List (Key × V)} {key : Str} {d : PyData} (s : Same G G') (h : HasD K G kvs key d) : HasD K G' kvs key d := by
  obtain ⟨v, h1, h2⟩ := h
  exact ⟨v, h1, dp_at s h2⟩
theorem DrawnAt.at_ {K : PySem.W.Frag} {G G' : Hp} {dr : Addr} {c : Cont} (s : Same G G') (h : DrawnAt K G dr c) : DrawnAt K G' dr c := by
  obtain ⟨kvs, h1, h0, h2, h3, h4, h5, h6, h7, h8, h9⟩ := h.ex
  exact ⟨kvs, s _ _ h1, h0, h2.at_ s, h3.at_ s, HasD.at_ s h4, HasD.at_ s h5, HasD.at_ s h6, h7.at_ s, h8.at_ s, h9.at_ s⟩
theorem HasD.put {K : PySem.W.Frag} {G G' : Hp} {kvs : List (Key × V)} {key key2 : Str} {d : PyData} {v : V} (h : HasD K G kvs key d) (n : ¬ key = key2) (s : Same G G') : HasD K G' (putK kvs (.inr key2 : Key) v) key d := by
  obtain ⟨u, h1, h2⟩ := h
  refine ⟨u, ?_, dp_at s h2⟩
  rw [valV_put, if_neg (fun z => n (by injection z))]
  exact h1
theorem HasD.new {K : PySem.W.Frag} {G : Hp} {kvs : List (Key × V)} {key : Str} {d : PyData} {v : V} (h : Dp K G v d) : HasD K G (putK kvs (.inr key : Key) v) key d := ⟨v, by rw [valV_put, if_pos rfl], h⟩
theorem putK_len {kvs : List (Key × V)} {k : Key} {v : V} : (putK kvs k v).length ≤ kvs.length + 1 := by
  unfold putK
  split <;> simp
end B7
namespace B7
open PySem PySem.Spec PyProof.Rows L2
def wordsL : List Str := ["table", "unlike", "root", "best", "none", "two", "all", "not", "", "Zz 1"]
theorem words_bd : ∀ z ∈ wordsL, Bd 0 12 (.str z) := fun z hz => by
  have h : (wordsL.all fun z => (z.cps.toList.all fun c => decide (c < 16 ^ 8)) && decide (z.cps.size ≤ 12)) = true := by decide +kernel
  have q := List.all_eq_true.mp h z hz
  rw [Bool.and_eq_true] at q
  exact .str q.1 (of_decide_eq_true q.2)
/-- the dict on its way -/
structure DS (K : PySem.W.Frag) (G0 H0 : Hp) (bx F : Addr) (wd : Str) (ls : Bool) (G H : Hp) (kvs : List (Key × V)) : Prop where
  hF : H F = some (.dK kvs)
  gF : G F = none
  b : BoxAt K G H bx
  w : HasD K G kvs "word" (.str wd)
  l : HasD K G kvs "lists" (.bool ls)
  g : Gr (ZB bx) G0 H0 G H
theorem DS.step {K : PySem.W.Frag} {G0 H0 G1 H1 G2 H2 : Hp} {bx F : Addr} {wd : Str} {ls : Bool} {kvs : List (Key × V)} {key : Str} {v : V} (x : DS K G0 H0 bx F wd ls G1 H1 kvs) (hF : H0 F = none) (hne : bx ≠ F) (g : Gr (ZB bx) G1 H1 G2 H2) (b : BoxAt K G2 H2 bx) (n1 : ¬ ("word" : Str) = key) (n2 : ¬ ("lists" : Str) = key) :
    H2 F = some (.dK kvs) ∧ DS K G0 H0 bx F wd ls G2 (upd H2 F (.dK (putK kvs (.inr key : Key) v))) (putK kvs (.inr key : Key) v) := by
  have e : H2 F = some (.dK kvs) := g.sH F _ x.hF fun z => hne z.symm
  have gn : G2 F = none := g.non F (by rw [x.hF]; simp) x.gF
  exact ⟨e, upd_same, gn, b.mv (Same.refl _) (upd_ne hne) b.gn, x.w.put n1 g.sG, x.l.put n2 g.sG, (x.g.trans g).chg hF gn⟩
theorem DS.mk1 {K : PySem.W.Frag} {G0 H0 G1 H1 : Hp} {bx F p : Addr} {o : HO} {wd : Str} {ls : Bool} {kvs : List (Key × V)} (x : DS K G0 H0 bx F wd ls G1 H1 kvs) (hp : H1 p = none) : DS K G0 H0 bx F wd ls (upd G1 p o) (upd H1 p o) kvs :=
  ⟨by rw [upd_ne (ne_of_none x.hF hp)]; exact x.hF, by rw [upd_ne (ne_of_none x.hF hp)]; exact x.gF, x.b.up1 x.g.sub hp, x.w.at_ (same_upd (x.g.gnone hp)), x.l.at_ (same_upd (x.g.gnone hp)), x.g.mk1 hp⟩
def spDrawn (K : PySem.W.Frag) : Sp := fun vs H Q _ => ∃ (bx : Addr) (G : Hp), vs = [.ref bx] ∧ Same G H ∧ BoxAt K G H bx ∧ ∀ dr c G' H', Gr (ZB bx) G H G' H' → BoxAt K G' H' bx → c.Ok → DrawnAt K G' dr c → Q (.ref dr) H'
section
variable {P : Program} {w : World} {K : PySem.W.Frag} {mg : Str → Option Value} {base : Heap}
/-! ### _law_drawn -/
abbrev s_law_drawn : Stmt := top 15
theorem sc_law_drawn : FnScope ["box", "many", "words", "found", "key", "k"] ["box"] (defScope s_law_drawn) := ⟨rfl, rfl, rfl, by decide +kernel, rfl, by decide +kernel, by decide +kernel⟩
theorem ok_drawn {f f1 f2 f3 : Addr} {fd fd1 fd2 fd3 : FuncData} (D : DefAt K mg "_law_drawn" s_law_drawn ["box"] f fd) (D1 : DefAt K mg "_law_take" s_law_take ["box", "many"] f1 fd1) (D2 : DefAt K mg "_law_anything" s_law_anything ["box"] f2 fd2) (D3 : DefAt K mg "_law_row" s_law_row ["box"] f3 fd3) (T : Bn mg) :
    FnOk P w K mg base CX0 4 f fd ["box"] (spDrawn K) := by
  have G_take : FnOk P w K mg base CX0 1 f1 fd1 ["box", "many"] (spTake K) := ok_take D1 T
  have G_anything : FnOk P w K mg base CX0 2 f2 fd2 ["box"] (spDraw K AnyD) := ok_anything D2 D1 T
  have G_row : FnOk P w K mg base CX0 3 f3 fd3 ["box"] (spDraw K RowD) := ok_row D3 D1 D2 T
  refine D.F.ok sc_law_drawn (fun vs H Q E h => ?_) (fun cdv A outer s H vs Q E hr h => ?_)
  · obtain ⟨bx, G, rfl, _⟩ := h
    rfl
  · obtain ⟨bx, G, rfl, sG, hB, k⟩ := h
    have hu := hu_of hr
    refine ⟨_, (pss_cons (ps_set (i := 1) sc_law_drawn.nd rfl (Or.inl rfl) (pe_call G_take (hr.mono (by decide)) rfl D1.m D1.F.kp D1.b .nil pass0 (pa_cons (pv 0) (pa_cons pe_int pa_nil))))
    (pss_cons (ps_set (i := 2) sc_law_drawn.nd rfl (Or.inl rfl) (pe_lst (pa_cons pe_str (pa_cons pe_str (pa_cons pe_str (pa_cons pe_str (pa_cons pe_str (pa_cons pe_str (pa_cons pe_str (pa_cons pe_str (pa_cons pe_str (pa_cons pe_str pa_nil))))))))))))
    (pss_cons (ps_set (i := 3) sc_law_drawn.nd rfl (Or.inl rfl) (pe_disp (pps_cons pe_str (pe_ix ix_list (pv 2) (pe_call G_take (hr.mono (by decide)) rfl D1.m D1.F.kp D1.b .nil pass0 (pa_cons (pv 0) (pa_cons pe_int pa_nil))) (fun _ _ => rfl)) (pps_cons pe_str (pe_cmpR op_eq (pe_call G_take (hr.mono (by decide)) rfl D1.m D1.F.kp D1.b .nil pass0 (pa_cons (pv 0) (pa_cons pe_int pa_nil))) pe_int (nomark _)) pps_nil)) (by rfl) (by rfl) (fun z => by cases z) (by decide)))
    (pss_cons (ps_for PassesOwn.never rfl (pi_list (pe_lst (pa_cons pe_str (pa_cons pe_str pa_nil)))) (pg_name (i := 4) sc_law_drawn.nd rfl (Or.inl rfl))
      (pss_one (ps_dput hu (pv 3) (pv 4) (pe_lc (own := [("k", 5)]) (g := gName 5) (tt := tYes) rfl sc_law_drawn.nd (pi_range1 (by rfl) T.n_range (pa_cons (pv 1) pa_nil)) (blkOk_by (N := ["box", "many", "words", "found", "key", "k"]) (sc := defScope s_law_drawn) (by decide +kernel)) (fun _ _ _ _ _ => (pg_name (i := 5) sc_law_drawn.nd rfl (Or.inl rfl))) (fun _ _ _ _ _ => pts_nil) (fun _ _ _ _ _ => (pe_call G_anything (hr.mono (by decide)) rfl D2.m D2.F.kp D2.b .nil pass0 (pa_cons (pv 0) pa_nil)))) rfl)))
    (pss_cons (ps_dput hu (pv 3) pe_str (pe_lc (own := [("k", 5)]) (g := gName 5) (tt := tYes) rfl sc_law_drawn.nd (pi_range1 (by rfl) T.n_range (pa_cons (pv 1) pa_nil)) (blkOk_by (N := ["box", "many", "words", "found", "key", "k"]) (sc := defScope s_law_drawn) (by decide +kernel)) (fun _ _ _ _ _ => (pg_name (i := 5) sc_law_drawn.nd rfl (Or.inl rfl))) (fun _ _ _ _ _ => pts_nil) (fun _ _ _ _ _ => (pe_call G_row hr rfl D3.m D3.F.kp D3.b .nil pass0 (pa_cons (pv 0) pa_nil)))) rfl)
    (pss_cons (ps_for PassesOwn.never rfl (pi_list (pe_lst (pa_cons pe_str (pa_cons pe_str (pa_cons pe_str pa_nil))))) (pg_name (i := 4) sc_law_drawn.nd rfl (Or.inl rfl))
      (pss_one (ps_dput hu (pv 3) (pv 4) (pe_call G_anything (hr.mono (by decide)) rfl D2.m D2.F.kp D2.b .nil pass0 (pa_cons (pv 0) pa_nil)) rfl)))
    (pss_one (ps_ret (pv 3))))))))), ?_⟩
    refine ⟨_, rfl, bx, 7, G, rfl, by decide, by decide, sG, hB, fun n H1 n0 n1 g1 b1 => ?_⟩
    obtain ⟨n, rfl, hn⟩ := nat_of n0 n1
    refine ⟨by show 10 ≤ sizeLine; rw [sizeLine_eq]; decide, fun W hW => ?_⟩
    have g2 := g1.mk1 (o := .lst (wordsL.map V.str)) hW
    have b2 := b1.up1 (o := .lst (wordsL.map V.str)) g1.sub hW
    intro F hF
    have hF' : upd H1 W (.lst (wordsL.map V.str)) F = none := hF
    have hF0 := g2.old hF'
    have neF : bx ≠ F := b2.ne hF'
    have g3 := g2.mk0 (o := .dK []) hF'
    have b3 := b2.up (o := .dK []) hF'
    have gW : (upd G W (.lst (wordsL.map V.str))) W = some (.lst (wordsL.map V.str)) := upd_same
    revert g3 b3 gW
    have gF : (upd G W (.lst (wordsL.map V.str))) F = none := g2.gnone hF'
    revert gF
    generalize upd G W (.lst (wordsL.map V.str)) = G3
    intro gF g3 b3 gW
    refine ⟨_, rfl, _, rfl, bx, 10, G3, rfl, by decide, by decide, g3.sub, b3, fun wi H4 w0 w1 g4 b4 => ?_⟩
    obtain ⟨wi, rfl, hwi⟩ := nat_of w0 w1
    obtain ⟨wd, hwd⟩ : ∃ wd, wordsL[wi]? = some wd := ⟨_, List.getElem?_eq_getElem (by show wi < 10; omega)⟩
    refine ⟨W, wordsL.map V.str, _, .str wd, rfl, rfl, .of (g4.sub _ _ (g4.sG _ _ gW)), atI_nat (by rw [List.getElem?_map, hwd]; rfl), ?_⟩
    refine ⟨_, rfl, bx, 2, G3, rfl, by decide, by decide, g4.sub, b4, fun li H5 l0 l1 g5 b5 => ?_⟩
    have g35 := (g3.trans g4).trans g5
    have hF5 : H5 F = some (.dK []) := g5.sH F _ (g4.sH F _ upd_same fun z => neF z.symm) fun z => neF z.symm
    refine ⟨rfl, hF5, [(.inr "word", .str wd), (.inr "lists", .bl (decide (V.int li = V.int 0)))], rfl, Nat.le_of_lt (show 2 < 15 by decide), ?_⟩
    generalize decide (V.int li = V.int 0) = ls
    have em : mergeK [] [((.inr "word" : Key), V.str wd), (.inr "lists", .bl ls)] = putK (putK [] (.inr "word" : Key) (.str wd)) (.inr "lists" : Key) (.bl ls) := rfl
    have ds0 : DS K G H bx F wd ls G3 (upd H5 F (.dK (mergeK [] [(.inr "word", .str wd), (.inr "lists", .bl ls)]))) (mergeK [] [(.inr "word", .str wd), (.inr "lists", .bl ls)]) := by
      refine ⟨upd_same, gF, b5.mv (Same.refl _) (upd_ne neF) b5.gn, ?_, ?_, g35.chg hF0 gF⟩
      · rw [em]
        exact HasD.put (key2 := "lists") (HasD.new (.str wd)) (by decide +kernel) (Same.refl _)
      · rw [em]
        exact HasD.new (.bl ls)
    have len0 : (mergeK [] [((.inr "word" : Key), V.str wd), (.inr "lists", .bl ls)]).length ≤ 2 := by
      rw [em]
      exact Nat.le_trans putK_len (Nat.succ_le_succ (Nat.le_trans putK_len (Nat.le_of_eq rfl)))
    revert ds0 len0
    generalize mergeK [] [((.inr "word" : Key), V.str wd), (.inr "lists", .bl ls)] = kv0
    generalize upd H5 F (.dK kv0) = H6
    intro ds0 len0
    have small : ∀ {m : Nat}, m ≤ 20 → m < sizeLine := fun h => by rw [sizeLine_eq]; omega
    -- for key in ['one', 'two']
    refine ⟨by show 2 ≤ sizeLine; rw [sizeLine_eq]; decide, fun p1 hp1 => ?_⟩
    have ds1 := ds0.mk1 (o := .lst [.str "one", .str "two"]) hp1
    have gp1 : (upd G3 p1 (.lst [.str "one", .str "two"])) p1 = some (.lst [.str "one", .str "two"]) := upd_same
    revert ds1 gp1
    generalize upd G3 p1 (.lst [.str "one", .str "two"]) = G7
    intro ds1 gp1
    refine ⟨p1, rfl, ⟨_, .of upd_same⟩, for_list (K := K) (a := p1) (xs := [.str "one", .str "two"]) (fun i σ H2 => ∃ (G2 : Hp) (kvs : List (Key × V)) (x : Option V), σ = [some (.ref bx), some (.int (n : Int)), some (.ref W), some (.ref F), x, none] ∧ DS K G H bx F wd ls G2 H2 kvs ∧ kvs.length ≤ 2 + i ∧ Same G7 G2 ∧
      (1 ≤ i → ∃ ds, HasL K G2 kvs "one" ds ∧ ds.length = n ∧ ∀ d ∈ ds, AnyD d) ∧ (2 ≤ i → ∃ ds, HasL K G2 kvs "two" ds ∧ ds.length = n ∧ ∀ d ∈ ds, AnyD d)) ?_ ?_ ?_ ?_⟩
    · exact ⟨G7, kv0, none, rfl, ds1, len0, Same.refl _, fun h => absurd h (by decide), fun h => absurd h (by decide)⟩
    · rintro i σ H2 _ ⟨G2, kvs, x, _, d, _, s7, _⟩
      exact .of (d.g.sub _ _ (s7 _ _ gp1))
    · rintro i x σ H2 hx ⟨G2, kvs, x0, rfl, d, hl, s7, q1, q2⟩
      have hi : i < 2 := (List.getElem?_eq_some_iff.mp hx).1
      refine ⟨_, rfl, _, rfl, by omega, by omega, fun L hL => ?_⟩
      refine lc_draws (K := K) (AD := AnyD) (bx := bx) (n := n) (i := 5) (vs := [5]) (σ := [some (.ref bx), some (.int (n : Int)), some (.ref W), some (.ref F), some x, none]) hL (by omega) d.g.sub d.b (fun _ => rfl) (fun y H3 R G3 s3 b3 q => ⟨_, rfl, bx, G3, rfl, s3, b3, q⟩) ?_
      intro acc dd G4 H4 gg bb hLL hA hlen hall
      have hnew : Dp K G4 (.ref L) (.list dd) := .lst (.of hLL) hA
      rcases i with _ | _ | i
      · cases (show V.str "one" = x from Option.some.inj hx)
        obtain ⟨e, d'⟩ := d.step (v := .ref L) (key := "one") hF0 neF gg bb (by decide +kernel) (by decide +kernel)
        refine ⟨_, rfl, _, rfl, F, _, rfl, DPut.k (k := .inr "one") e (small (by omega)), G4, _, _, rfl, d', Nat.le_trans putK_len (by omega), s7.trans gg.sG, fun _ => ⟨dd, HasD.new hnew, hlen, hall⟩, fun h => absurd h (by decide)⟩
      · cases (show V.str "two" = x from Option.some.inj hx)
        obtain ⟨e, d'⟩ := d.step (v := .ref L) (key := "two") hF0 neF gg bb (by decide +kernel) (by decide +kernel)
        obtain ⟨d1, h1, h2, h3⟩ := q1 (by decide)
        refine ⟨_, rfl, _, rfl, F, _, rfl, DPut.k (k := .inr "two") e (small (by omega)), G4, _, _, rfl, d', Nat.le_trans putK_len (by omega), s7.trans gg.sG, fun _ => ⟨d1, HasD.put h1 (by decide +kernel) gg.sG, h2, h3⟩, fun _ => ⟨dd, HasD.new hnew, hlen, hall⟩⟩
      · omega
    · rintro σ H8 ⟨G8, kv1, x8, rfl, dl8, hl8, s8, q1, q2⟩
      obtain ⟨one, e1, l1, a1⟩ := q1 (by decide)
      obtain ⟨two, e2, l2, a2⟩ := q2 (by decide)
      -- found['lines'] = ..
      refine ⟨_, rfl, _, rfl, by omega, by omega, fun L hL => ?_⟩
      refine lc_draws (K := K) (AD := RowD) (bx := bx) (n := n) (i := 5) (vs := [5]) (σ := [some (.ref bx), some (.int (n : Int)), some (.ref W), some (.ref F), x8, none]) hL (by omega) dl8.g.sub dl8.b (fun _ => rfl) (fun y H3 R G3 s3 b3 q => ⟨_, rfl, bx, G3, rfl, s3, b3, q⟩) ?_
      intro acc lines G9 H9 gg bb hLL hA l3 a3
      have hnew : Dp K G9 (.ref L) (.list lines) := .lst (.of hLL) hA
      obtain ⟨e, d9⟩ := dl8.step (v := .ref L) (key := "lines") hF0 neF gg bb (by decide +kernel) (by decide +kernel)
      have l9 : (putK kv1 (.inr "lines" : Key) (.ref L)).length ≤ 5 := Nat.le_trans putK_len (by show kv1.length + 1 ≤ 5; have : kv1.length ≤ 2 + 2 := hl8; omega)
      refine ⟨_, rfl, F, _, rfl, DPut.k (k := .inr "lines") e (small (by have : kv1.length ≤ 2 + 2 := hl8; omega)), ?_⟩
      have e1 := HasD.put (v := .ref L) (key2 := "lines") e1 (by decide +kernel) gg.sG
      have e2 := HasD.put (v := .ref L) (key2 := "lines") e2 (by decide +kernel) gg.sG
      have e3 : HasL K G9 (putK kv1 (.inr "lines" : Key) (.ref L)) "lines" lines := HasD.new hnew
      revert d9 l9 e1 e2 e3
      generalize putK kv1 (.inr "lines" : Key) (.ref L) = kv2
      generalize upd H9 F (.dK kv2) = H10
      intro d9 l9 e1 e2 e3
      -- for key in ['first', 'second', 'third']
      refine ⟨by show 3 ≤ sizeLine; rw [sizeLine_eq]; decide, fun p2 hp2 => ?_⟩
      have d10 := d9.mk1 (o := .lst [.str "first", .str "second", .str "third"]) hp2
      have gp2 : (upd G9 p2 (.lst [.str "first", .str "second", .str "third"])) p2 = some (.lst [.str "first", .str "second", .str "third"]) := upd_same
      have s10 := same_upd (o := .lst [.str "first", .str "second", .str "third"]) (d9.g.gnone hp2)
      have e1 := HasD.at_ s10 e1
      have e2 := HasD.at_ s10 e2
      have e3 := HasD.at_ s10 e3
      revert d10 gp2 e1 e2 e3
      generalize upd G9 p2 (.lst [.str "first", .str "second", .str "third"]) = G10
      intro d10 gp2 e1 e2 e3
      refine ⟨p2, rfl, ⟨_, .of upd_same⟩, for_list (K := K) (a := p2) (xs := [.str "first", .str "second", .str "third"]) (fun i σ H2 => ∃ (G2 : Hp) (kvs : List (Key × V)) (x : Option V), σ = [some (.ref bx), some (.int (n : Int)), some (.ref W), some (.ref F), x, none] ∧ DS K G H bx F wd ls G2 H2 kvs ∧ kvs.length ≤ 5 + i ∧ Same G10 G2 ∧
        (HasL K G2 kvs "one" one ∧ HasL K G2 kvs "two" two ∧ HasL K G2 kvs "lines" lines) ∧
        (1 ≤ i → ∃ d, HasD K G2 kvs "first" d ∧ AnyD d) ∧ (2 ≤ i → ∃ d, HasD K G2 kvs "second" d ∧ AnyD d) ∧ (3 ≤ i → ∃ d, HasD K G2 kvs "third" d ∧ AnyD d)) ?_ ?_ ?_ ?_⟩
      · exact ⟨G10, kv2, _, rfl, d10, l9, Same.refl _, ⟨e1, e2, e3⟩, fun h => absurd h (by decide), fun h => absurd h (by decide), fun h => absurd h (by decide)⟩
      · rintro i σ H2 _ ⟨G2, kvs, x, _, d, _, s7, _⟩
        exact .of (d.g.sub _ _ (s7 _ _ gp2))
      · rintro i x σ H2 hx ⟨G2, kvs, x0, rfl, d, hl, s7, ⟨e1, e2, e3⟩, q1, q2, q3⟩
        have hi : i < 3 := (List.getElem?_eq_some_iff.mp hx).1
        refine ⟨_, rfl, bx, G2, rfl, d.g.sub, d.b, fun v dv G4 H4 gg bb hdv hv => ?_⟩
        rcases i with _ | _ | _ | i
        · cases (show V.str "first" = x from Option.some.inj hx)
          obtain ⟨e, d'⟩ := d.step (v := v) (key := "first") hF0 neF gg bb (by decide +kernel) (by decide +kernel)
          refine ⟨_, rfl, _, rfl, F, _, rfl, DPut.k (k := .inr "first") e (small (by omega)), G4, _, _, rfl, d', Nat.le_trans putK_len (by omega), s7.trans gg.sG, ⟨HasD.put e1 (by decide +kernel) gg.sG, HasD.put e2 (by decide +kernel) gg.sG, HasD.put e3 (by decide +kernel) gg.sG⟩, fun _ => ⟨dv, HasD.new hv, hdv⟩, fun h => absurd h (by decide), fun h => absurd h (by decide)⟩
        · cases (show V.str "second" = x from Option.some.inj hx)
          obtain ⟨e, d'⟩ := d.step (v := v) (key := "second") hF0 neF gg bb (by decide +kernel) (by decide +kernel)
          obtain ⟨da, ha, hb⟩ := q1 (by decide)
          refine ⟨_, rfl, _, rfl, F, _, rfl, DPut.k (k := .inr "second") e (small (by omega)), G4, _, _, rfl, d', Nat.le_trans putK_len (by omega), s7.trans gg.sG, ⟨HasD.put e1 (by decide +kernel) gg.sG, HasD.put e2 (by decide +kernel) gg.sG, HasD.put e3 (by decide +kernel) gg.sG⟩, fun _ => ⟨da, HasD.put ha (by decide +kernel) gg.sG, hb⟩, fun _ => ⟨dv, HasD.new hv, hdv⟩, fun h => absurd h (by decide)⟩
        · cases (show V.str "third" = x from Option.some.inj hx)
          obtain ⟨e, d'⟩ := d.step (v := v) (key := "third") hF0 neF gg bb (by decide +kernel) (by decide +kernel)
          obtain ⟨da, ha, hb⟩ := q1 (by decide)
          obtain ⟨db, hc, hd⟩ := q2 (by decide)
          refine ⟨_, rfl, _, rfl, F, _, rfl, DPut.k (k := .inr "third") e (small (by omega)), G4, _, _, rfl, d', Nat.le_trans putK_len (by omega), s7.trans gg.sG, ⟨HasD.put e1 (by decide +kernel) gg.sG, HasD.put e2 (by decide +kernel) gg.sG, HasD.put e3 (by decide +kernel) gg.sG⟩, fun _ => ⟨da, HasD.put ha (by decide +kernel) gg.sG, hb⟩, fun _ => ⟨db, HasD.put hc (by decide +kernel) gg.sG, hd⟩, fun _ => ⟨dv, HasD.new hv, hdv⟩⟩
        · omega
      · rintro σ H11 ⟨G11, kvs, x11, rfl, d, hl, s11, ⟨e1, e2, e3⟩, q1, q2, q3⟩
        obtain ⟨d1, f1, f2⟩ := q1 (by decide)
        obtain ⟨d2, f3, f4⟩ := q2 (by decide)
        obtain ⟨d3, f5, f6⟩ := q3 (by decide)
        refine ⟨_, rfl, ?_⟩
        have sF := same_upd (o := .dK kvs) d.gF
        refine k F ⟨wd, ls, one, two, lines, d1, d2, d3⟩ (upd G11 F (.dK kvs)) H11 (d.g.safe hF0 d.hF d.gF) (d.b.mv sF rfl (by rw [upd_ne neF]; exact d.b.gn)) ⟨words_bd wd (List.mem_of_getElem? hwd), by show one.length ≤ 6; omega, l2.trans l1.symm, l3.trans l1.symm, a1, a2, a3, f2, f4, f6⟩ ?_
        exact ⟨kvs, upd_same, by have : kvs.length ≤ 5 + 3 := hl; omega, d.w.at_ sF, d.l.at_ sF, HasD.at_ sF e1, HasD.at_ sF e2, HasD.at_ sF e3, f1.at_ sF, f3.at_ sF, f5.at_ sF⟩
end
end B7
namespace B7
open PySem PySem.Spec PyProof.Rows L2
section
variable {α β : Type} {R S : α → β → Prop}
theorem pd_len : ∀ {xs : List α} {ys : List β}, Paired R xs ys → xs.length = ys.length
  | _, _, .nil => rfl
  | _, _, .cons _ r => by simp [pd_len r]
theorem pd_get : ∀ {xs : List α} {ys : List β} {i : Nat} {x : α}, Paired R xs ys → xs[i]? = some x → ∃ y, ys[i]? = some y ∧ R x y
  | _, _, i, x, .nil, e => by simp at e
  | _, _, 0, x, .cons h r, e => by
    simp at e
    subst e
    exact ⟨_, rfl, h⟩
  | _, _, i + 1, x, .cons h r, e => by
    simp at e
    obtain ⟨y, h1, h2⟩ := pd_get r e
    exact ⟨y, by simpa using h1, h2⟩
theorem pd_snoc : ∀ {xs : List α} {ys : List β} {x : α} {y : β}, Paired R xs ys → R x y → Paired R (xs ++ [x]) (ys ++ [y])
  | _, _, _, _, .nil, q => .cons q .nil
  | _, _, _, _, .cons h r, q => .cons h (pd_snoc r q)
theorem pd_map (f : ∀ x y, R x y → S x y) : ∀ {xs : List α} {ys : List β}, Paired R xs ys → Paired S xs ys
  | _, _, .nil => .nil
  | _, _, .cons h r => .cons (f _ _ h) (pd_map f r)
theorem pd_mem : ∀ {xs : List α} {ys : List β} {x : α}, Paired R xs ys → x ∈ xs → ∃ y, y ∈ ys ∧ R x y
  | _, _, x, .cons h r, e => by
    cases e with
    | head => exact ⟨_, List.mem_cons_self .., h⟩
    | tail _ e =>
      obtain ⟨y, h1, h2⟩ := pd_mem r e
      exact ⟨y, List.mem_cons_of_mem _ h1, h2⟩
end
theorem dget_of {H : Hp} {a : Addr} {kvs : List (Key × V)} {key : Str} {v : V} (e : H a = some (.dK kvs)) (h : valV kvs (.inr key : Key) = some v) : DGet H a (.str key) (some v) := .inl ⟨kvs, .inr key, .inl e, rfl, h.symm⟩
/-- an item as it is passed: a list is a new one -/
inductive PxD (K : PySem.W.Frag) (G H H0 : Hp) (a : Addr) : V → PyData → Prop
  | safe {u : V} {d : PyData} : isLst d = false → Dp K G u d → PxD K G H H0 a u d
  | lst {b : Addr} {ws : List V} {es : List PyData} : H b = some (.lst ws) → G b = none → H0 b = none → b ≠ a → DpAll K G ws es → PxD K G H H0 a (.ref b) (.list es)
theorem PxD.mv {K : PySem.W.Frag} {G H H0 G' H' : Hp} {a : Addr} {u : V} {d : PyData} (h : PxD K G H H0 a u d) (s : Same G G') (n : ∀ b, H b ≠ none → G b = none → G' b = none) (e : ∀ b o, H b = some o → H0 b = none → b ≠ a → H' b = some o) : PxD K G' H' H0 a u d := by
  cases h with
  | safe h1 h2 => exact .safe h1 (dp_at s h2)
  | lst h1 h2 h3 h4 h5 => exact .lst (e _ _ h1 h3 h4) (n _ (by rw [h1]; simp) h2) h3 h4 (dpa_at s h5)
/-- what _law_passed gives -/
structure PasAt (K : PySem.W.Frag) (G H H0 : Hp) (a : Addr) (t : Bool) (us : List V) (ds : List PyData) : Prop where
  n0 : H0 a = none
  sq : if t = true then G a = some (.tup us) else H a = some (.lst us) ∧ G a = none
  al : Paired (PxD K G H H0 a) us ds
theorem PasAt.gr {K : PySem.W.Frag} {G H H0 G' H' : Hp} {a : Addr} {t : Bool} {us : List V} {ds : List PyData} (h : PasAt K G H H0 a t us ds) (g : Gr Z0 G H G' H') : PasAt K G' H' H0 a t us ds := by
  refine ⟨h.n0, ?_, pd_map (fun _ _ q => q.mv g.sG g.non fun b o e _ _ => g.same b o e) h.al⟩
  have q := h.sq
  cases t with
  | true => exact g.sG _ _ q
  | false => exact ⟨g.same _ _ q.1, g.non _ (by rw [q.1]; simp) q.2⟩
def rListOf (K : PySem.W.Frag) : List V → Hp → VK → Prop := fun xs H Q => ∃ p ys, xs = [V.ref p] ∧ (SqL K H p ys ∨ SqT K H p ys) ∧ ∀ l : Addr, H l = none → Q (.ref l) (upd H l (.lst ys))
theorem call_list_ofK {X : Cx} {K : PySem.W.Frag} (hK : X.K = K) : CallR X (.type "list") (rListOf K) := by
  subst hK
  exact call_list_of
theorem call_isiK {X : Cx} {K : PySem.W.Frag} (hK : X.K = K) : CallR X (.builtin "isinstance") (rIsi K) := by
  subst hK
  exact call_isi
theorem ix_tupK {X : Cx} {K : PySem.W.Frag} (hK : X.K = K) : IxR X (rIxT K) := by
  subst hK
  exact ix_tup
theorem ix_listK {X : Cx} {K : PySem.W.Frag} (hK : X.K = K) : IxR X (rIxL K) := by
  subst hK
  exact ix_list
def spPassed (K : PySem.W.Frag) : Sp := fun vs H Q _ => ∃ (dr : Addr) (key : Str) (G : Hp) (kvs : List (Key × V)) (ds : List PyData) (ls : Bool), vs = [.ref dr, .str key] ∧ Same G H ∧ G dr = some (.dK kvs) ∧ HasL K G kvs key ds ∧ HasD K G kvs "lists" (.bool ls) ∧ ds.length ≤ 100 ∧
  ∀ a t us G' H', Gr Z0 G H G' H' → PasAt K G' H' H a t us ds → Q (.ref a) H'
section
variable {P : Program} {w : World} {K : PySem.W.Frag} {mg : Str → Option Value} {base : Heap}
/-! ### _law_passed -/
abbrev s_law_passed : Stmt := top 16
theorem sc_law_passed : FnScope ["drawn", "key", "values", "value"] ["drawn", "key"] (defScope s_law_passed) := ⟨rfl, rfl, rfl, by decide +kernel, rfl, by decide +kernel, by decide +kernel⟩
theorem ok_passed {f : Addr} {fd : FuncData} (D : DefAt K mg "_law_passed" s_law_passed ["drawn", "key"] f fd) (T : Bn mg) : FnOk P w K mg base CX0 1 f fd ["drawn", "key"] (spPassed K) := by
  refine D.F.ok sc_law_passed (fun vs H Q E h => ?_) (fun cdv A outer s H vs Q E hr h => ?_)
  · obtain ⟨dr, key, _, _, _, _, rfl, _⟩ := h
    rfl
  · obtain ⟨dr, key, G, kvs, ds, ls, rfl, sG, hd, hL, hls, hlen, k⟩ := h
    have hu := hu_of hr
    refine ⟨_, (pss_cons (ps_setLc (i := 2) (own := [("value", 3)]) (g := gName 3) (tt := tYes) rfl sc_law_passed.nd rfl rfl (sw_true rfl rfl rfl (by decide +kernel)) (pi_list (pe_dget hu (pv 0) (pv 1) (fun _ _ => rfl))) (blkOk_by (N := ["drawn", "key", "values", "value"]) (sc := defScope s_law_passed) (by decide +kernel)) (fun _ _ _ _ _ => (pg_name (i := 3) sc_law_passed.nd rfl (Or.inl rfl))) (fun _ _ _ _ _ => pts_nil) (fun _ _ _ _ _ => (pe_ifExp (pt_val (pe_callB (call_isiK (K := K) rfl) (by rfl) T.n_isinstance PyProof.Rows.boot_isinstance (pa_cons (pv 3) (pa_cons (pe_bltn (v := .ty "list") (by rfl) T.n_list PyProof.Rows.boot_list rfl) pa_nil)))) (pe_callTy (call_list_ofK (K := K) rfl) (by rfl) T.n_list PyProof.Rows.boot_list (pa_cons (pv 3) pa_nil)) (pv 3))))
    (pss_one (ps_ret (pe_ifExp (pt_val (pe_dget hu (pv 0) pe_str (fun _ _ => rfl))) (pv 2) (pe_callTy call_tuple_of (by rfl) T.n_tuple PyProof.Rows.boot_tuple (pa_cons (pv 2) pa_nil)))))), ?_⟩
    obtain ⟨v, hv, dv⟩ := hL
    cases dv with
    | @lst l xs ds hq hA =>
      refine ⟨_, rfl, _, rfl, dr, _, rfl, dget_of (sG _ _ hd) hv, l, rfl, ⟨_, seqL_at sG hq⟩, fun L hLn => ?_⟩
      have hxs := dpa_len hA
      refine lc_list (K := K) (a := l) (xs := xs) (fun i H2 => ∃ acc, H2 L = some (.lst acc) ∧ acc.length = i ∧ Gr Z0 G H G H2 ∧ Paired (PxD K G H2 H L) acc (ds.take i)) ?_ ?_ ?_ ?_
      · exact ⟨[], upd_same, rfl, (Gr.refl sG).mk0 hLn, .nil⟩
      · rintro i H2 _ ⟨_, _, _, g, _⟩
        exact seqL_at g.sub hq
      · rintro i x H2 hx ⟨acc, h1, h2, g, hP⟩
        obtain ⟨d, ed, hdx⟩ := dpa_get hA hx
        have hil := dp_len hA hx
        obtain ⟨ty, h3, h4⟩ := isi_list (dp_at g.sub hdx)
        refine ⟨rfl, _, rfl, _, _, ty, _, _, rfl, .ty "list", h3, h4, _, rfl, ?_⟩
        refine ite_b (fun e => ?_) fun e => ?_
        · cases hdx with
          | @lst b ws es q a =>
            refine ⟨_, rfl, b, ws, rfl, .inl (seqL_at g.sub q), fun p hp => ?_⟩
            have nL : L ≠ p := ne_of_none h1 hp
            have hp0 : H p = none := g.old hp
            refine ⟨acc, by rw [upd_ne nL]; exact h1, by rw [h2, sizeLine_eq]; omega, acc ++ [.ref p], upd_same, by simp [h2], (g.mk0 hp).chg hLn (sG.free hLn), ?_⟩
            rw [take_snoc ed]
            refine pd_snoc (pd_map (fun _ _ q => q.mv (Same.refl _) (fun _ _ e => e) fun c o e _ hc => ?_) hP) (.lst (by rw [upd_ne nL.symm]; exact upd_same) (sG.free hp0) hp0 nL.symm a)
            rw [upd_ne hc, upd_ne (ne_of_none e hp)]
            exact e
          | _ => cases e
        · refine ⟨_, rfl, acc, h1, by rw [h2, sizeLine_eq]; omega, acc ++ [x], upd_same, by simp [h2], g.chg hLn (sG.free hLn), ?_⟩
          rw [take_snoc ed]
          refine pd_snoc (pd_map (fun _ _ q => q.mv (Same.refl _) (fun _ _ e => e) fun c o e _ hc => ?_) hP) (.safe e hdx)
          rw [upd_ne hc]
          exact e
      · rintro H2 ⟨acc, h1, h2, g, hP⟩
        rw [hxs, List.take_length] at hP
        obtain ⟨vl, hvl, dvl⟩ := hls
        cases dvl
        refine ⟨_, rfl, dr, _, rfl, dget_of (g.sub _ _ hd) hvl, _, rfl, ?_⟩
        have gL : G L = none := sG.free hLn
        refine ite_b (fun e => ?_) fun e => ?_
        · exact ⟨_, rfl, k L false acc G H2 g ⟨hLn, ⟨h1, gL⟩, hP⟩⟩
        · refine ⟨_, rfl, L, acc, rfl, .inl ⟨.of h1, fun p hp => ?_⟩⟩
          have hp0 : H p = none := g.old hp
          refine k p true acc (upd G p (.tup acc)) _ (g.mk1 hp) ⟨hp0, upd_same, pd_map (fun _ _ q => ?_) hP⟩
          cases q with
          | safe q1 q2 => exact .safe q1 (dp_at (same_upd (sG.free hp0)) q2)
          | lst q1 q2 q3 q4 q5 =>
            have nb := ne_of_none q1 hp
            exact .lst (by rw [upd_ne nb]; exact q1) (by rw [upd_ne nb]; exact q2) q3 nb (dpa_at (same_upd (sG.free hp0)) q5)
end
end B7
namespace B7
open PySem PySem.Spec PyProof.Rows L2
/-! ### more on the safe part -/
theorem Gr.all {Z : Addr → Prop} {G H G1 H1 H2 : Hp} (a : Gr Z G H G1 H1) (s : Same H1 H2) : Gr Z G H (fun b => if H1 b = none then H2 b else G1 b) H2 :=
  a.trans ⟨fun b o e => by
    show (if H1 b = none then H2 b else G1 b) = some o
    rw [if_neg (by rw [a.sub _ _ e]; simp)]; exact e, fun b o e _ => s b o e, fun b o e => by
    have e : (if H1 b = none then H2 b else G1 b) = some o := e
    by_cases q : H1 b = none
    · rw [if_pos q] at e; exact e
    · rw [if_neg q] at e; exact s _ _ (a.sub _ _ e), fun b hb e => by
    show (if H1 b = none then H2 b else G1 b) = none
    rw [if_neg hb]; exact e, fun b hb q => hb (s.free q)⟩
theorem Gr.gw {Z : Addr → Prop} {G H G1 H1 H2 : Hp} (a : Gr Z G H G1 H1) (s : Same H1 H2) : Same G1 (fun b => if H1 b = none then H2 b else G1 b) := fun b o e => by
  show (if H1 b = none then H2 b else G1 b) = some o
  rw [if_neg (by rw [a.sub _ _ e]; simp)]; exact e
theorem dpa_intro {K : PySem.W.Frag} {G : Hp} : ∀ {vs : List V} {ds : List PyData}, vs.length = ds.length → (∀ (j : Nat) (v : V) (d : PyData), vs[j]? = some v → ds[j]? = some d → Dp K G v d) → DpAll K G vs ds := by
  intro vs
  induction vs with
  | nil =>
    intro ds hl _
    cases ds with
    | nil => exact .nil
    | cons d ds => cases hl
  | cons v vs ih =>
    intro ds hl h
    cases ds with
    | nil => cases hl
    | cons d ds => exact .cons (h 0 v d rfl rfl) (ih (by simpa using hl) fun j v' d' h1 h2 => h (j + 1) v' d' (by simpa using h1) (by simpa using h2))
/-- lists and tuples stay where only an instance changes -/
theorem sq_mv {K : PySem.W.Frag} {H H' : Hp} {x C dx : Addr} {fs : List (Str × V)} {t : Bool} {a : Addr} {us : List V} (h : Sq K t H a us) (hx : H x = some (.ins C dx fs)) (k : ∀ b o, H b = some o → b ≠ x → H' b = some o) : Sq K t H' a us := by
  have ne : ∀ {o : HO}, H a = some o → (∀ C d f, o ≠ .ins C d f) → a ≠ x := fun {o} e n z => by
    subst z
    rw [hx] at e
    exact n _ _ _ (Option.some.inj e).symm
  cases t with
  | true =>
    rcases (show SqT K H a us from h) with (h | ⟨o, h⟩) | h
    · exact show SqT K H' a us from .inl (.inl (k _ _ h (ne h fun _ _ _ z => by cases z)))
    · exact show SqT K H' a us from .inl (.inr ⟨o, k _ _ h (ne h fun _ _ _ z => by cases z)⟩)
    · exact show SqT K H' a us from .inr h
  | false =>
    rcases (show SqL K H a us from h) with (h | ⟨o, h⟩) | h
    · exact show SqL K H' a us from .inl (.inl (k _ _ h (ne h fun _ _ _ z => by cases z)))
    · exact show SqL K H' a us from .inl (.inr ⟨o, k _ _ h (ne h fun _ _ _ z => by cases z)⟩)
    · exact show SqL K H' a us from .inr h
/-- a list or tuple of safe data -/
def SeqIn (K : PySem.W.Frag) (G H : Hp) (v : V) (ds : List PyData) : Prop := ∃ (a : Addr) (t : Bool) (us : List V), v = .ref a ∧ Sq K t H a us ∧ (t = true → SqT K G a us) ∧ DpAll K G us ds
/-- a list or tuple of rows -/
def RowsIn (K : PySem.W.Frag) (G H : Hp) (v : V) (ds : List PyData) : Prop := ∃ (a : Addr) (t : Bool) (us : List V), v = .ref a ∧ Sq K t H a us ∧ Paired (fun u d => CpIn K G H 2 u d) us ds
theorem CpIn.mv {K : PySem.W.Frag} {G H G' H' : Hp} {m : Nat} {v : V} {d : PyData} (h : CpIn K G H m v d) (s : Same G G') (k : ∀ (t : Bool) (a : Addr) (us : List V), Sq K t H a us → Sq K t H' a us) : CpIn K G' H' m v d := by
  rcases h with h | ⟨h0, a, t, xs, ds, h1, h2, h3, h4⟩
  · exact .inl (dp_at s h)
  · exact .inr ⟨h0, a, t, xs, ds, h1, h2, k _ _ _ h3, dpa_at s h4⟩
theorem SeqIn.mv {K : PySem.W.Frag} {G H G' H' : Hp} {v : V} {ds : List PyData} (h : SeqIn K G H v ds) (s : Same G G') (k : ∀ (t : Bool) (a : Addr) (us : List V), Sq K t H a us → Sq K t H' a us) : SeqIn K G' H' v ds := by
  obtain ⟨a, t, us, h1, h2, h3, h4⟩ := h
  exact ⟨a, t, us, h1, k _ _ _ h2, fun e => seqT_at s (h3 e), dpa_at s h4⟩
theorem RowsIn.mv {K : PySem.W.Frag} {G H G' H' : Hp} {v : V} {ds : List PyData} (h : RowsIn K G H v ds) (s : Same G G') (k : ∀ (t : Bool) (a : Addr) (us : List V), Sq K t H a us → Sq K t H' a us) : RowsIn K G' H' v ds := by
  obtain ⟨a, t, us, h1, h2, h3⟩ := h
  exact ⟨a, t, us, h1, k _ _ _ h2, pd_map (fun _ _ q => q.mv s k) h3⟩
def rTupleOf (K : PySem.W.Frag) : List V → Hp → VK → Prop := fun xs H Q => ∃ p ys, xs = [V.ref p] ∧ ((SqL K H p ys ∧ ∀ l : Addr, H l = none → Q (.ref l) (upd H l (.tup ys))) ∨ (SqT K H p ys ∧ Q (.ref p) H))
theorem call_tupK {X : Cx} {K : PySem.W.Frag} (hK : X.K = K) : CallR X (.type "tuple") (rTupleOf K) := by
  subst hK
  exact call_tuple_of
/-- tuple(v) of it -/
theorem tuple_seq {K : PySem.W.Frag} {σ : L2.St} {G H : Hp} {v : V} {ds : List PyData} (h : SeqIn K G H v ds) (s : Same G H) {Q : VK} (q : ∀ u G' H', Gr Z0 G H G' H' → Dp K G' u (.tuple ds) → Q u H') :
    tNil σ H fun xs H2 => rTupleOf K (v :: xs) H2 Q := by
  obtain ⟨a, t, us, rfl, h2, h3, h4⟩ := h
  refine ⟨a, us, rfl, ?_⟩
  cases t with
  | false => exact .inl ⟨h2, fun l hl => q _ _ _ ((Gr.refl s).mk1 hl) (.tup (.of upd_same) (dpa_at (same_upd (s.free hl)) h4))⟩
  | true => exact .inr ⟨h2, q _ _ _ (.refl s) (.tup (h3 rfl) h4)⟩
/-! ### fields -/
def HasF (K : PySem.W.Frag) (G : Hp) (fs : List (Str × V)) (name : Str) (d : PyData) : Prop := ∃ v, fs.lookup name = some v ∧ Dp K G v d
theorem HasF.at_ {K : PySem.W.Frag} {G G' : Hp} {fs : List (Str × V)} {name : Str} {d : PyData} (s : Same G G') (h : HasF K G fs name d) : HasF K G' fs name d := by
  obtain ⟨v, h1, h2⟩ := h
  exact ⟨v, h1, dp_at s h2⟩
theorem HasF.put {K : PySem.W.Frag} {G G' : Hp} {fs : List (Str × V)} {name f : Str} {v : V} {d : PyData} (h : HasF K G fs name d) (n : ¬ name = f) (s : Same G G') : HasF K G' (putF f v fs) name d := by
  obtain ⟨u, h1, h2⟩ := h
  exact ⟨u, by rw [lookup_putF, if_neg n]; exact h1, dp_at s h2⟩
theorem HasF.new {K : PySem.W.Frag} {G : Hp} {fs : List (Str × V)} {f : Str} {v : V} {d : PyData} (h : Dp K G v d) : HasF K G (putF f v fs) f d := ⟨v, by rw [lookup_putF, if_pos rfl], h⟩
theorem putF_len {f : Str} {v : V} : ∀ {fs : List (Str × V)}, (putF f v fs).length ≤ fs.length + 1
  | [] => Nat.le_refl _
  | (g, x) :: r => by
    have := putF_len (f := f) (v := v) (fs := r)
    unfold putF
    split
    · simp
    · simp only [List.length_cons]; omega
/-- an object on its way -/
structure OSt (G H : Hp) (x C dx : Addr) (G' H' : Hp) (fs : List (Str × V)) : Prop where
  h : H' x = some (.ins C dx fs)
  gx : G' x = none
  g : Gr (ZB x) G H G' H'
theorem OSt.put {G H G' H' : Hp} {x C dx : Addr} {fs fs' : List (Str × V)} (o : OSt G H x C dx G' H' fs) : OSt G H x C dx G' (upd H' x (.ins C dx fs')) fs' := ⟨upd_same, o.gx, o.g.chgZ rfl o.gx⟩
theorem OSt.go {G H G' H' G2 H2 : Hp} {x C dx : Addr} {fs : List (Str × V)} (o : OSt G H x C dx G' H' fs) (g : Gr Z0 G' H' G2 H2) : OSt G H x C dx G2 H2 fs := ⟨g.same _ _ o.h, g.non x (by rw [o.h]; simp) o.gx, o.g.trans g.wk⟩
theorem OSt.keep {K : PySem.W.Frag} {G H G' H' : Hp} {x C dx : Addr} {fs fs0 : List (Str × V)} (o : OSt G H x C dx G' H' fs) (h0 : H x = some (.ins C dx fs0)) (t : Bool) (a : Addr) (us : List V) (h : Sq K t H a us) : Sq K t H' a us := sq_mv h h0 fun b u e n => o.g.sH b u e n
def zipD (a b c : List PyData) : List PyData := (List.range a.length).map fun j => .tuple [a.getD j .none, b.getD j .none, c.getD j .none]
structure ShFs (K : PySem.W.Frag) (G : Hp) (fs : List (Str × V)) (wd : Str) (one two lines : List PyData) (sh : PyData) : Prop where
  w : HasF K G fs "word" (.str wd)
  s : HasF K G fs "squares" (.tuple one)
  d : HasF K G fs "degrees" (.tuple two)
  r : HasF K G fs "rows" (.tuple lines)
  h : HasF K G fs "shown" sh
  t : HasF K G fs "triples" (.list (zipD one two lines))
structure ShC (K : PySem.W.Frag) (C : Addr) : Prop where
  cl : Cls K C
  w : NoAttr K C "word"
  s : NoAttr K C "squares"
  d : NoAttr K C "degrees"
  r : NoAttr K C "rows"
  h : NoAttr K C "shown"
  t : NoAttr K C "triples"
def spShape (K : PySem.W.Frag) (C : Addr) : Sp := fun vs H Q _ => ∃ (x dx : Addr) (G : Hp) (wd : Str) (v1 v2 v3 v4 : V) (d1 d2 d3 : List PyData) (d4 : PyData), vs = [.ref x, .str wd, v1, v2, v3, v4] ∧ H x = some (.ins C dx []) ∧ G x = none ∧ Same G H ∧ SeqIn K G H v1 d1 ∧ SeqIn K G H v2 d2 ∧ RowsIn K G H v3 d3 ∧ Dp K G v4 d4 ∧
  d2.length = d1.length ∧ d3.length = d1.length ∧ d1.length ≤ 100 ∧ (∀ d ∈ d3, d.bulk ≤ 1000) ∧ d4.bulk ≤ 1000 ∧
  ∀ G' H' fs, Gr (ZB x) G H G' H' → G' x = none → H' x = some (.ins C dx fs) → ShFs K G' fs wd d1 d2 (d3.map keptD) d4 → Q .non H'
section
variable {P : Program} {w : World} {K : PySem.W.Frag} {mg : Str → Option Value} {base : Heap}
abbrev s_SquareTable_init : Stmt := inClass (top 3) 0
theorem sc_SquareTable_init : FnScope ["self", "word", "squares", "degrees", "rows", "shown", "row"] ["self", "word", "squares", "degrees", "rows", "shown"] (defScope s_SquareTable_init) := ⟨rfl, rfl, rfl, by decide +kernel, rfl, by decide +kernel, by decide +kernel⟩
theorem ok_shape {C f f1 f2 : Addr} {fd fd1 fd2 : FuncData} {kws : List (Str × V)} (F : FunD K "__init__" "SquareTable.__init__" (defArgs s_SquareTable_init) (defBody s_SquareTable_init) (defScope s_SquareTable_init) [] kws f fd) (X : ShC K C)
    (D1 : DefAt K mg "copied" s_copied ["value", "depth"] f1 fd1) (D2 : DefAt K mg "frozen" s_frozen ["row"] f2 fd2) (T : Bn mg) : FnOk P w K mg base CX0 5 f fd ["self", "word", "squares", "degrees", "rows", "shown"] (spShape K C) := by
  have G_copied : FnOk P w K mg base CX0 4 f1 fd1 ["value", "depth"] (spCopied K 3) := ok_copied D1 T 3
  have G_frozen : FnOk P w K mg base CX0 4 f2 fd2 ["row"] (spFrozen K) := ok_frozen D2 D1 T
  refine F.ok sc_SquareTable_init (fun vs H Q E h => ?_) (fun cdv A outer s H vs Q E hr h => ?_)
  · obtain ⟨_, _, _, _, _, _, _, _, _, _, _, _, rfl, _⟩ := h
    rfl
  · obtain ⟨x, dx, G, wd, v1, v2, v3, v4, d1, d2, d3, d4, rfl, hx, gx, sG, q1, q2, q3, q4, l2, l3, l1, b3, b4, k⟩ := h
    refine ⟨_, (pss_cons (ps_fld (pv 0) (pv 1) rfl)
    (pss_cons (ps_fld (pv 0) (pe_callTy (call_tupK (K := K) rfl) (by rfl) T.n_tuple PyProof.Rows.boot_tuple (pa_cons (pv 2) pa_nil)) rfl)
    (pss_cons (ps_fld (pv 0) (pe_callTy (call_tupK (K := K) rfl) (by rfl) T.n_tuple PyProof.Rows.boot_tuple (pa_cons (pv 3) pa_nil)) rfl)
    (pss_cons (ps_fld (pv 0) (pe_callTy (call_tupK (K := K) rfl) (by rfl) T.n_tuple PyProof.Rows.boot_tuple (pa_cons (pe_lc (own := [("row", 6)]) (g := gName 6) (tt := tYes) rfl sc_SquareTable_init.nd (pi_seq (pv 4)) (blkOk_by (N := ["self", "word", "squares", "degrees", "rows", "shown", "row"]) (sc := defScope s_SquareTable_init) (by decide +kernel)) (fun _ _ _ _ _ => (pg_name (i := 6) sc_SquareTable_init.nd rfl (Or.inl rfl))) (fun _ _ _ _ _ => pts_nil) (fun _ _ _ _ _ => (pe_call G_frozen hr rfl D2.m D2.F.kp D2.b .nil pass0 (pa_cons (pv 6) pa_nil)))) pa_nil)) rfl)
    (pss_cons (ps_fld (pv 0) (pe_call G_copied hr rfl D1.m D1.F.kp D1.b .nil pass0 (pa_cons (pv 5) (pa_cons pe_int pa_nil))) rfl)
    (pss_one (ps_fld (pv 0) (pe_zip3 rfl (by rfl) T.n_list (by rfl) T.n_zip (pa_cons (pe_fld (pv 0) rfl) (pa_cons (pe_fld (pv 0) rfl) (pa_cons (pe_fld (pv 0) rfl) pa_nil)))) rfl))))))), ?_⟩
    have sm : ∀ {m : Nat}, m ≤ 10 → m < 1000 := fun h => by omega
    -- self.word
    have o0 : OSt G H x C dx G H [] := ⟨hx, gx, .refl sG⟩
    refine ⟨_, rfl, _, rfl, x, C, dx, _, rfl, o0.h, X.cl, X.w, sm (by decide), ?_⟩
    have o1 := o0.put (fs' := putF "word" (.str wd) [])
    have n1 : (putF "word" (V.str wd) []).length ≤ 1 := putF_len
    have w1 : HasF K G (putF "word" (V.str wd) []) "word" (.str wd) := HasF.new (.str wd)
    revert o1 n1 w1
    generalize upd H x (.ins C dx (putF "word" (V.str wd) [])) = H1
    generalize putF "word" (V.str wd) [] = fs1
    intro o1 n1 w1
    -- self.squares
    refine ⟨_, rfl, tuple_seq (q1.mv (Same.refl _) (o1.keep hx)) o1.g.sub fun u G2 H2 g2 hu => ?_⟩
    have o2 := o1.go g2
    refine ⟨_, rfl, x, C, dx, _, rfl, o2.h, X.cl, X.s, sm (by omega), ?_⟩
    have o2 := o2.put (fs' := putF "squares" u fs1)
    have n2 : (putF "squares" u fs1).length ≤ 2 := Nat.le_trans putF_len (by omega)
    have w2 := w1.put (f := "squares") (v := u) (by decide +kernel) g2.sG
    have s2 : HasF K G2 (putF "squares" u fs1) "squares" (.tuple d1) := HasF.new hu
    revert o2 n2 w2 s2
    generalize upd H2 x (.ins C dx (putF "squares" u fs1)) = H3
    generalize putF "squares" u fs1 = fs2
    intro o2 n2 w2 s2
    -- self.degrees
    refine ⟨_, rfl, tuple_seq (q2.mv o2.g.sG (o2.keep hx)) o2.g.sub fun u G4 H4 g4 hu => ?_⟩
    have o4 := o2.go g4
    refine ⟨_, rfl, x, C, dx, _, rfl, o4.h, X.cl, X.d, sm (by omega), ?_⟩
    have o4 := o4.put (fs' := putF "degrees" u fs2)
    have n4 : (putF "degrees" u fs2).length ≤ 3 := Nat.le_trans putF_len (by omega)
    have w4 := w2.put (f := "degrees") (v := u) (by decide +kernel) g4.sG
    have s4 := s2.put (f := "degrees") (v := u) (by decide +kernel) g4.sG
    have e4 : HasF K G4 (putF "degrees" u fs2) "degrees" (.tuple d2) := HasF.new hu
    revert o4 n4 w4 s4 e4
    generalize upd H4 x (.ins C dx (putF "degrees" u fs2)) = H5
    generalize putF "degrees" u fs2 = fs3
    intro o4 n4 w4 s4 e4
    -- self.rows
    obtain ⟨a, t, us, rfl, hq, hP⟩ := q3.mv o4.g.sG (o4.keep hx)
    refine ⟨_, rfl, a, t, us, rfl, hq, fun L hL => ?_⟩
    have lus := pd_len hP
    refine lc_seq (K := K) (t := t) (a := a) (xs := us) (fun i H6 => ∃ (G6 : Hp) (acc : List V), H6 L = some (.lst acc) ∧ G6 L = none ∧ acc.length = i ∧ Gr Z0 G4 H5 G6 H6 ∧ DpAll K G6 acc ((d3.take i).map keptD)) ?_ ?_ ?_ ?_
    · exact ⟨G4, [], upd_same, o4.g.sub.free hL, rfl, (Gr.refl o4.g.sub).mk0 hL, .nil⟩
    · rintro i H6 _ ⟨_, _, _, _, _, g, _⟩
      exact sq_at g.same hq
    · rintro i y H6 hy ⟨G6, acc, h1, h2, h3, g, hA⟩
      obtain ⟨d, ed, hc⟩ := pd_get hP hy
      have hi : i < us.length := (List.getElem?_eq_some_iff.mp hy).1
      refine ⟨rfl, _, rfl, y, d, G6, rfl, g.sub, b3 d (List.mem_of_getElem? ed), hc.mv g.sG (fun t a us q => sq_at g.same q), fun u G7 H7 g7 hu => ?_⟩
      have h17 := g7.same _ _ h1
      have h27 := g7.non L (by rw [h1]; simp) h2
      refine ⟨acc, h17, by rw [h3, sizeLine_eq]; omega, G7, acc ++ [u], upd_same, h27, by simp [h3], (g.trans g7).chg hL h27, ?_⟩
      rw [take_snoc ed, List.map_append]
      exact dpa_snoc (dpa_at g7.sG hA) hu
    · rintro H6 ⟨G6, acc, h1, h2, h3, g, hA⟩
      rw [lus, List.take_length] at hA
      refine ⟨L, acc, rfl, .inl ⟨.of h1, fun p hp => ?_⟩⟩
      have gn := g.gnone hp
      have o6 := o4.go (g.mk1 (o := .tup acc) hp)
      have sg : Same G4 (upd G6 p (.tup acc)) := g.sG.trans (same_upd gn)
      have hr : Dp K (upd G6 p (.tup acc)) (.ref p) (.tuple (d3.map keptD)) := .tup (.of upd_same) (dpa_at (same_upd gn) hA)
      revert o6 sg hr
      generalize upd G6 p (.tup acc) = G7
      generalize upd H6 p (.tup acc) = H7
      intro o6 sg hr
      refine ⟨_, rfl, x, C, dx, _, rfl, o6.h, X.cl, X.r, sm (by omega), ?_⟩
      have o7 := o6.put (fs' := putF "rows" (.ref p) fs3)
      have n7 : (putF "rows" (.ref p) fs3).length ≤ 4 := Nat.le_trans putF_len (by omega)
      have w7 := w4.put (f := "rows") (v := .ref p) (by decide +kernel) sg
      have s7 := s4.put (f := "rows") (v := .ref p) (by decide +kernel) sg
      have e7 := e4.put (f := "rows") (v := .ref p) (by decide +kernel) sg
      have r7 : HasF K G7 (putF "rows" (.ref p) fs3) "rows" (.tuple (d3.map keptD)) := HasF.new hr
      revert o7 n7 w7 s7 e7 r7
      generalize upd H7 x (.ins C dx (putF "rows" (.ref p) fs3)) = H8
      generalize putF "rows" (.ref p) fs3 = fs4
      intro o7 n7 w7 s7 e7 r7
      -- self.shown
      refine ⟨_, rfl, v4, d4, G7, rfl, o7.g.sub, b4, .inl (dp_at o7.g.sG q4), fun u G9 H9 g9 hu => ?_⟩
      have o9 := o7.go g9
      refine ⟨_, rfl, x, C, dx, _, rfl, o9.h, X.cl, X.h, sm (by omega), ?_⟩
      have o9 := o9.put (fs' := putF "shown" u fs4)
      have n9 : (putF "shown" u fs4).length ≤ 5 := Nat.le_trans putF_len (by omega)
      have w9 := w7.put (f := "shown") (v := u) (by decide +kernel) g9.sG
      have s9 := s7.put (f := "shown") (v := u) (by decide +kernel) g9.sG
      have e9 := e7.put (f := "shown") (v := u) (by decide +kernel) g9.sG
      have r9 := r7.put (f := "shown") (v := u) (by decide +kernel) g9.sG
      have h9 : HasF K G9 (putF "shown" u fs4) "shown" d4 := HasF.new hu
      revert o9 n9 w9 s9 e9 r9 h9
      generalize upd H9 x (.ins C dx (putF "shown" u fs4)) = H10
      generalize putF "shown" u fs4 = fs5
      intro o9 n9 w9 s9 e9 r9 h9
      -- self.triples
      obtain ⟨u1, lu1, du1⟩ := id s9
      obtain ⟨u2, lu2, du2⟩ := id e9
      obtain ⟨u3, lu3, du3⟩ := id r9
      cases du1 with
      | @tup a1 xs _ t1 al1 => cases du2 with
        | @tup a2 ys _ t2 al2 => cases du3 with
          | @tup a3 zs _ t3 al3 =>
            have sub := o9.g.sub
            have m1 := dpa_len al1
            have m2 := dpa_len al2
            have m3 := dpa_len al3
            rw [List.length_map] at m3
            refine ⟨_, rfl, x, C, dx, _, _, rfl, o9.h, X.cl, X.s, lu1, _, rfl, x, C, dx, _, _, rfl, o9.h, X.cl, X.d, lu2, _, rfl, x, C, dx, _, _, rfl, o9.h, X.cl, X.r, lu3, a1, a2, a3, xs, ys, zs, rfl, seqT_at sub t1, seqT_at sub t2, seqT_at sub t3, by omega, by omega, by omega, fun L2 as H11 hl hn hL2 kp at_ => ?_⟩
            have kp : Same H10 H11 := kp
            have ga := (Gr.refl (Z := Z0) sub).all kp
            have gs := (Gr.refl (Z := Z0) sub).gw kp
            have o11 := o9.go ga
            have onew : ∀ {b : Addr} {o : HO}, H10 b = none → H11 b = some o → (fun b => if H10 b = none then H11 b else G9 b) b = some o := fun {b o} h1 h2 => by
              show (if H10 b = none then H11 b else G9 b) = some o
              rw [if_pos h1]; exact h2
            revert o11 ga gs onew
            generalize (fun b => if H10 b = none then H11 b else G9 b) = G11
            intro ga gs o11 onew
            have ht : Dp K G11 (.ref L2) (.list (zipD d1 d2 (d3.map keptD))) := by
              refine .lst (.of (onew hn hL2)) (dpa_intro ?_ fun j v d hv hd => ?_)
              · rw [List.length_map]; unfold zipD; rw [List.length_map, List.length_range]; omega
              · rw [List.getElem?_map] at hv
                obtain ⟨p, hp, rfl⟩ := Option.map_eq_some_iff.mp hv
                unfold zipD at hd
                rw [List.getElem?_map] at hd
                obtain ⟨j', hj, rfl⟩ := Option.map_eq_some_iff.mp hd
                have ej : j' = j := by
                  have := List.getElem?_eq_some_iff.mp hj
                  obtain ⟨q1, q2⟩ := this
                  rw [List.getElem_range] at q2
                  exact q2.symm
                subst ej
                obtain ⟨np, a, b, c, ha, hb, hc, ht⟩ := at_ j' p hp
                obtain ⟨da, ea, ra⟩ := dpa_get al1 ha
                obtain ⟨db, eb, rb⟩ := dpa_get al2 hb
                obtain ⟨dc, ec, rc⟩ := dpa_get al3 hc
                have gd : ∀ {l : List PyData} {d : PyData}, l[j']? = some d → l.getD j' .none = d := fun {l d} e => by rw [List.getD_eq_getElem?_getD, e]; rfl
                rw [gd ea, gd eb, gd ec]
                exact .tup (.of (onew np ht)) (.cons (dp_at gs ra) (.cons (dp_at gs rb) (.cons (dp_at gs rc) .nil)))
            refine ⟨_, rfl, x, C, dx, _, rfl, o11.h, X.cl, X.t, sm (by omega), ?_⟩
            have o12 := o11.put (fs' := putF "triples" (.ref L2) fs5)
            refine k G11 _ _ o12.g o12.gx o12.h ⟨w9.put (by decide +kernel) gs, s9.put (by decide +kernel) gs, e9.put (by decide +kernel) gs, r9.put (by decide +kernel) gs, h9.put (by decide +kernel) gs, HasF.new ht⟩
end
end B7
namespace B7
open PySem PySem.Spec PyProof.Rows L2
structure VeFs (K : PySem.W.Frag) (G : Hp) (fs : List (Str × V)) (wd : Str) (d1 d2 d3 : PyData) (ds : List PyData) : Prop where
  w : HasF K G fs "word" (.str wd)
  r : HasF K G fs "rule" d1
  n : HasF K G fs "written" d2
  t : HasF K G fs "tie" d3
  s : HasF K G fs "sides" (.tuple ds)
structure VeC (K : PySem.W.Frag) (C : Addr) : Prop where
  cl : Cls K C
  w : NoAttr K C "word"
  r : NoAttr K C "rule"
  n : NoAttr K C "written"
  t : NoAttr K C "tie"
  s : NoAttr K C "sides"
structure WhFs (K : PySem.W.Frag) (G : Hp) (fs : List (Str × V)) (wd : Str) (ds : List PyData) (d1 d2 : PyData) : Prop where
  w : HasF K G fs "word" (.str wd)
  r : HasF K G fs "rules" (.tuple ds)
  q : HasF K G fs "quantity" d1
  v : HasF K G fs "verdict" d2
structure WhC (K : PySem.W.Frag) (C : Addr) : Prop where
  cl : Cls K C
  w : NoAttr K C "word"
  r : NoAttr K C "rules"
  q : NoAttr K C "quantity"
  v : NoAttr K C "verdict"
theorem ShFs.at_ {K : PySem.W.Frag} {G G' : Hp} {fs : List (Str × V)} {wd : Str} {a b c : List PyData} {d : PyData} (s : Same G G') (h : ShFs K G fs wd a b c d) : ShFs K G' fs wd a b c d := ⟨h.w.at_ s, h.s.at_ s, h.d.at_ s, h.r.at_ s, h.h.at_ s, h.t.at_ s⟩
theorem VeFs.at_ {K : PySem.W.Frag} {G G' : Hp} {fs : List (Str × V)} {wd : Str} {a b c : PyData} {d : List PyData} (s : Same G G') (h : VeFs K G fs wd a b c d) : VeFs K G' fs wd a b c d := ⟨h.w.at_ s, h.r.at_ s, h.n.at_ s, h.t.at_ s, h.s.at_ s⟩
theorem WhFs.at_ {K : PySem.W.Frag} {G G' : Hp} {fs : List (Str × V)} {wd : Str} {a : List PyData} {b c : PyData} (s : Same G G') (h : WhFs K G fs wd a b c) : WhFs K G' fs wd a b c := ⟨h.w.at_ s, h.r.at_ s, h.q.at_ s, h.v.at_ s⟩
def spVer (K : PySem.W.Frag) (C : Addr) : Sp := fun vs H Q _ => ∃ (x dx : Addr) (G : Hp) (wd : Str) (v1 v2 v3 v4 : V) (d1 d2 d3 : PyData) (ds : List PyData), vs = [.ref x, .str wd, v1, v2, v3, v4] ∧ H x = some (.ins C dx []) ∧ G x = none ∧ Same G H ∧ Dp K G v1 d1 ∧ Dp K G v2 d2 ∧ Dp K G v3 d3 ∧ SeqIn K G H v4 ds ∧
  ∀ G' H' fs, Gr (ZB x) G H G' H' → G' x = none → H' x = some (.ins C dx fs) → VeFs K G' fs wd d1 d2 d3 ds → Q .non H'
def spWho (K : PySem.W.Frag) (C : Addr) : Sp := fun vs H Q _ => ∃ (x dx : Addr) (G : Hp) (wd : Str) (v1 v2 v3 : V) (ds : List PyData) (d1 d2 : PyData), vs = [.ref x, .str wd, v1, v2, v3] ∧ H x = some (.ins C dx []) ∧ G x = none ∧ Same G H ∧ SeqIn K G H v1 ds ∧ Dp K G v2 d1 ∧ Dp K G v3 d2 ∧
  ∀ G' H' fs, Gr (ZB x) G H G' H' → G' x = none → H' x = some (.ins C dx fs) → WhFs K G' fs wd ds d1 d2 → Q .non H'
def spLen (K : PySem.W.Frag) (C : Addr) : Sp := fun vs H Q _ => ∃ (x dx : Addr) (fs : List (Str × V)) (ds : List PyData), vs = [.ref x] ∧ H x = some (.ins C dx fs) ∧ HasF K H fs "squares" (.tuple ds) ∧ Q (.int (ds.length : Int)) H
section
variable {P : Program} {w : World} {K : PySem.W.Frag} {mg : Str → Option Value} {base : Heap}
abbrev s_SquareTable_len : Stmt := inClass (top 3) 1
theorem sc_SquareTable_len : FnScope ["self"] ["self"] (defScope s_SquareTable_len) := ⟨rfl, rfl, rfl, by decide +kernel, rfl, by decide +kernel, by decide +kernel⟩
theorem ok_len {C f : Addr} {fd : FuncData} (F : Fun K "__len__" "SquareTable.__len__" s_SquareTable_len f fd) (X : ShC K C) (T : Bn mg) : FnOk P w K mg base CX0 1 f fd ["self"] (spLen K C) := by
  refine F.ok sc_SquareTable_len (fun vs H Q E h => ?_) (fun cdv A outer s H vs Q E hr h => ?_)
  · obtain ⟨_, _, _, _, rfl, _⟩ := h
    rfl
  · obtain ⟨x, dx, fs, ds, rfl, hx, ⟨v, hv, dv⟩, k⟩ := h
    refine ⟨_, (pss_one (ps_ret (pe_callB call_len_seq (by rfl) T.n_len PySem.boot_len (pa_cons (pe_fld (pv 0) rfl) pa_nil)))), ?_⟩
    cases dv with
    | @tup a us _ q al =>
      refine ⟨_, rfl, x, C, dx, fs, _, rfl, hx, X.cl, X.s, hv, a, us, rfl, .inr q, ?_⟩
      rw [dpa_len al]
      exact k
abbrev s_Verdict_init : Stmt := inClass (top 5) 0
theorem sc_Verdict_init : FnScope ["self", "word", "rule", "written", "tie", "sides"] ["self", "word", "rule", "written", "tie", "sides"] (defScope s_Verdict_init) := ⟨rfl, rfl, rfl, by decide +kernel, rfl, by decide +kernel, by decide +kernel⟩
theorem ok_ver {C f : Addr} {fd : FuncData} {kws : List (Str × V)} (F : FunD K "__init__" "Verdict.__init__" (defArgs s_Verdict_init) (defBody s_Verdict_init) (defScope s_Verdict_init) [] kws f fd) (X : VeC K C) (T : Bn mg) : FnOk P w K mg base CX0 1 f fd ["self", "word", "rule", "written", "tie", "sides"] (spVer K C) := by
  refine F.ok sc_Verdict_init (fun vs H Q E h => ?_) (fun cdv A outer s H vs Q E hr h => ?_)
  · obtain ⟨_, _, _, _, _, _, _, _, _, _, _, _, rfl, _⟩ := h
    rfl
  · obtain ⟨x, dx, G, wd, v1, v2, v3, v4, d1, d2, d3, ds, rfl, hx, gx, sG, q1, q2, q3, q4, k⟩ := h
    refine ⟨_, (pss_cons (ps_fld (pv 0) (pv 1) rfl)
    (pss_cons (ps_fld (pv 0) (pv 2) rfl)
    (pss_cons (ps_fld (pv 0) (pv 3) rfl)
    (pss_cons (ps_fld (pv 0) (pv 4) rfl)
    (pss_one (ps_fld (pv 0) (pe_callTy (call_tupK (K := K) rfl) (by rfl) T.n_tuple PyProof.Rows.boot_tuple (pa_cons (pv 5) pa_nil)) rfl)))))), ?_⟩
    have sm : ∀ {m : Nat}, m ≤ 10 → m < 1000 := fun h => by omega
    have o0 : OSt G H x C dx G H [] := ⟨hx, gx, .refl sG⟩
    refine ⟨_, rfl, _, rfl, x, C, dx, _, rfl, o0.h, X.cl, X.w, sm (by decide), ?_⟩
    have o1 := o0.put (fs' := putF "word" (.str wd) [])
    have n1 : (putF "word" (V.str wd) []).length ≤ 1 := putF_len
    have w1 : HasF K G (putF "word" (V.str wd) []) "word" (.str wd) := HasF.new (.str wd)
    revert o1 n1 w1
    generalize upd H x (.ins C dx (putF "word" (V.str wd) [])) = H1
    generalize putF "word" (V.str wd) [] = fs1
    intro o1 n1 w1
    refine ⟨_, rfl, _, rfl, x, C, dx, _, rfl, o1.h, X.cl, X.r, sm (by omega), ?_⟩
    have o2 := o1.put (fs' := putF "rule" v1 fs1)
    have n2 : (putF "rule" v1 fs1).length ≤ 2 := Nat.le_trans putF_len (by omega)
    have w2 := w1.put (f := "rule") (v := v1) (by decide +kernel) (Same.refl G)
    have r2 : HasF K G (putF "rule" v1 fs1) "rule" d1 := HasF.new q1
    revert o2 n2 w2 r2
    generalize upd H1 x (.ins C dx (putF "rule" v1 fs1)) = H2
    generalize putF "rule" v1 fs1 = fs2
    intro o2 n2 w2 r2
    refine ⟨_, rfl, _, rfl, x, C, dx, _, rfl, o2.h, X.cl, X.n, sm (by omega), ?_⟩
    have o3 := o2.put (fs' := putF "written" v2 fs2)
    have n3 : (putF "written" v2 fs2).length ≤ 3 := Nat.le_trans putF_len (by omega)
    have w3 := w2.put (f := "written") (v := v2) (by decide +kernel) (Same.refl G)
    have r3 := r2.put (f := "written") (v := v2) (by decide +kernel) (Same.refl G)
    have t3 : HasF K G (putF "written" v2 fs2) "written" d2 := HasF.new q2
    revert o3 n3 w3 r3 t3
    generalize upd H2 x (.ins C dx (putF "written" v2 fs2)) = H3
    generalize putF "written" v2 fs2 = fs3
    intro o3 n3 w3 r3 t3
    refine ⟨_, rfl, _, rfl, x, C, dx, _, rfl, o3.h, X.cl, X.t, sm (by omega), ?_⟩
    have o4 := o3.put (fs' := putF "tie" v3 fs3)
    have n4 : (putF "tie" v3 fs3).length ≤ 4 := Nat.le_trans putF_len (by omega)
    have w4 := w3.put (f := "tie") (v := v3) (by decide +kernel) (Same.refl G)
    have r4 := r3.put (f := "tie") (v := v3) (by decide +kernel) (Same.refl G)
    have t4 := t3.put (f := "tie") (v := v3) (by decide +kernel) (Same.refl G)
    have e4 : HasF K G (putF "tie" v3 fs3) "tie" d3 := HasF.new q3
    revert o4 n4 w4 r4 t4 e4
    generalize upd H3 x (.ins C dx (putF "tie" v3 fs3)) = H4
    generalize putF "tie" v3 fs3 = fs4
    intro o4 n4 w4 r4 t4 e4
    refine ⟨_, rfl, tuple_seq (q4.mv o4.g.sG (o4.keep hx)) o4.g.sub fun u G5 H5 g5 hu => ?_⟩
    have o5 := o4.go g5
    refine ⟨_, rfl, x, C, dx, _, rfl, o5.h, X.cl, X.s, sm (by omega), ?_⟩
    have o6 := o5.put (fs' := putF "sides" u fs4)
    exact k G5 _ _ o6.g o6.gx o6.h ⟨w4.put (by decide +kernel) g5.sG, r4.put (by decide +kernel) g5.sG, t4.put (by decide +kernel) g5.sG, e4.put (by decide +kernel) g5.sG, HasF.new hu⟩
abbrev s_Whole_init : Stmt := inClass (top 7) 0
theorem sc_Whole_init : FnScope ["self", "word", "rules", "quantity", "verdict"] ["self", "word", "rules", "quantity", "verdict"] (defScope s_Whole_init) := ⟨rfl, rfl, rfl, by decide +kernel, rfl, by decide +kernel, by decide +kernel⟩
theorem ok_who {C f : Addr} {fd : FuncData} {kws : List (Str × V)} (F : FunD K "__init__" "Whole.__init__" (defArgs s_Whole_init) (defBody s_Whole_init) (defScope s_Whole_init) [] kws f fd) (X : WhC K C) (T : Bn mg) : FnOk P w K mg base CX0 1 f fd ["self", "word", "rules", "quantity", "verdict"] (spWho K C) := by
  refine F.ok sc_Whole_init (fun vs H Q E h => ?_) (fun cdv A outer s H vs Q E hr h => ?_)
  · obtain ⟨_, _, _, _, _, _, _, _, _, _, rfl, _⟩ := h
    rfl
  · obtain ⟨x, dx, G, wd, v1, v2, v3, ds, d1, d2, rfl, hx, gx, sG, q1, q2, q3, k⟩ := h
    refine ⟨_, (pss_cons (ps_fld (pv 0) (pv 1) rfl)
    (pss_cons (ps_fld (pv 0) (pe_callTy (call_tupK (K := K) rfl) (by rfl) T.n_tuple PyProof.Rows.boot_tuple (pa_cons (pv 2) pa_nil)) rfl)
    (pss_cons (ps_fld (pv 0) (pv 3) rfl)
    (pss_one (ps_fld (pv 0) (pv 4) rfl))))), ?_⟩
    have sm : ∀ {m : Nat}, m ≤ 10 → m < 1000 := fun h => by omega
    have o0 : OSt G H x C dx G H [] := ⟨hx, gx, .refl sG⟩
    refine ⟨_, rfl, _, rfl, x, C, dx, _, rfl, o0.h, X.cl, X.w, sm (by decide), ?_⟩
    have o1 := o0.put (fs' := putF "word" (.str wd) [])
    have n1 : (putF "word" (V.str wd) []).length ≤ 1 := putF_len
    have w1 : HasF K G (putF "word" (V.str wd) []) "word" (.str wd) := HasF.new (.str wd)
    revert o1 n1 w1
    generalize upd H x (.ins C dx (putF "word" (V.str wd) [])) = H1
    generalize putF "word" (V.str wd) [] = fs1
    intro o1 n1 w1
    refine ⟨_, rfl, tuple_seq (q1.mv (Same.refl _) (o1.keep hx)) o1.g.sub fun u G5 H5 g5 hu => ?_⟩
    have o5 := o1.go g5
    refine ⟨_, rfl, x, C, dx, _, rfl, o5.h, X.cl, X.r, sm (by omega), ?_⟩
    have o2 := o5.put (fs' := putF "rules" u fs1)
    have n2 : (putF "rules" u fs1).length ≤ 2 := Nat.le_trans putF_len (by omega)
    have w2 := w1.put (f := "rules") (v := u) (by decide +kernel) g5.sG
    have r2 : HasF K G5 (putF "rules" u fs1) "rules" (.tuple ds) := HasF.new hu
    revert o2 n2 w2 r2
    generalize upd H5 x (.ins C dx (putF "rules" u fs1)) = H2
    generalize putF "rules" u fs1 = fs2
    intro o2 n2 w2 r2
    refine ⟨_, rfl, _, rfl, x, C, dx, _, rfl, o2.h, X.cl, X.q, sm (by omega), ?_⟩
    have o3 := o2.put (fs' := putF "quantity" v2 fs2)
    have n3 : (putF "quantity" v2 fs2).length ≤ 3 := Nat.le_trans putF_len (by omega)
    have w3 := w2.put (f := "quantity") (v := v2) (by decide +kernel) (Same.refl G5)
    have r3 := r2.put (f := "quantity") (v := v2) (by decide +kernel) (Same.refl G5)
    have t3 : HasF K G5 (putF "quantity" v2 fs2) "quantity" d1 := HasF.new (dp_at g5.sG q2)
    revert o3 n3 w3 r3 t3
    generalize upd H2 x (.ins C dx (putF "quantity" v2 fs2)) = H3
    generalize putF "quantity" v2 fs2 = fs3
    intro o3 n3 w3 r3 t3
    refine ⟨_, rfl, _, rfl, x, C, dx, _, rfl, o3.h, X.cl, X.v, sm (by omega), ?_⟩
    have o4 := o3.put (fs' := putF "verdict" v3 fs3)
    exact k G5 _ _ o4.g o4.gx o4.h ⟨w3.put (by decide +kernel) (Same.refl _), r3.put (by decide +kernel) (Same.refl _), t3.put (by decide +kernel) (Same.refl _), HasF.new (dp_at g5.sG q3)⟩
end
end B7
namespace B7
open PySem PySem.Spec PyProof.Rows L2
theorem Gr.drop {G H G1 H1 G2 H2 : Hp} {x : Addr} (a : Gr Z0 G H G1 H1) (b : Gr (ZB x) G1 H1 G2 H2) (hx : H x = none) : Gr Z0 G H G2 H2 :=
  ⟨a.sG.trans b.sG, fun c o e _ => b.sH c o (a.same c o e) (ne_of_none e hx), b.sub, fun c h e => b.non c (a.zz c h) (a.non c h e), fun c h => b.zz c (a.zz c h)⟩
/-! ### the objects of a drawn content -/
structure ObjsAt (K : PySem.W.Frag) (CS CV CW : Addr) (G : Hp) (sa ja wa : Addr) (c : Cont) : Prop where
  s : ∃ dx fs, G sa = some (.ins CS dx fs) ∧ ShFs K G fs c.word c.one c.two (c.lines.map keptD) c.fst
  j : ∃ dx fs, G ja = some (.ins CV dx fs) ∧ VeFs K G fs c.word c.fst c.snd c.thd c.one
  w : ∃ dx fs, G wa = some (.ins CW dx fs) ∧ WhFs K G fs c.word c.two c.snd c.thd
theorem ObjsAt.at_ {K : PySem.W.Frag} {CS CV CW : Addr} {G G' : Hp} {sa ja wa : Addr} {c : Cont} (s : Same G G') (h : ObjsAt K CS CV CW G sa ja wa c) : ObjsAt K CS CV CW G' sa ja wa c := by
  obtain ⟨⟨d1, f1, h1, h2⟩, ⟨d2, f2, h3, h4⟩, ⟨d3, f3, h5, h6⟩⟩ := h
  exact ⟨⟨d1, f1, s _ _ h1, h2.at_ s⟩, ⟨d2, f2, s _ _ h3, h4.at_ s⟩, ⟨d3, f3, s _ _ h5, h6.at_ s⟩⟩
/-! ### what may be spoilt -/
def SpV (K : PySem.W.Frag) (G H : Hp) (no : Addr → Prop) (a : Addr) : Prop := ∃ (t : Bool) (us : List V), (if t = true then G a = some (.tup us) else H a = some (.lst us) ∧ G a = none) ∧ us.length ≤ 10 ∧
  ∀ u ∈ us, (∃ d, isLst d = false ∧ Dp K G u d) ∨ ∃ b ws, u = .ref b ∧ H b = some (.lst ws) ∧ ws.length ≤ 100 ∧ G b = none ∧ no b
def Spoil (K : PySem.W.Frag) (G H : Hp) (P : Addr) : Prop := ∃ a0 a1 a2, G P = some (.lst [.ref a0, .ref a1, .ref a2]) ∧ a0 ≠ a1 ∧ a0 ≠ a2 ∧ a1 ≠ a2 ∧ (∀ a ∈ [a0, a1, a2], SpV K G H (fun b => b ∉ [a0, a1, a2]) a)
theorem SpV.mv {K : PySem.W.Frag} {G H G' H' : Hp} {no : Addr → Prop} {a : Addr} (h : SpV K G H no a) (s : Same G G') (n : ∀ b, H b ≠ none → G b = none → G' b = none) (k : Same H H') : SpV K G' H' no a := by
  obtain ⟨t, us, h1, h2, h3⟩ := h
  refine ⟨t, us, ?_, h2, fun u hu => ?_⟩
  · cases t with
    | true => exact s _ _ h1
    | false => exact ⟨k _ _ h1.1, n _ (by rw [h1.1]; simp) h1.2⟩
  · rcases h3 u hu with ⟨d, q1, q2⟩ | ⟨b, ws, q1, q2, q3, q4, q5⟩
    · exact .inl ⟨d, q1, dp_at s q2⟩
    · exact .inr ⟨b, ws, q1, k _ _ q2, q3, n _ (by rw [q2]; simp) q4, q5⟩
theorem Spoil.mv {K : PySem.W.Frag} {G H G' H' : Hp} {P : Addr} (h : Spoil K G H P) (s : Same G G') (n : ∀ b, H b ≠ none → G b = none → G' b = none) (k : Same H H') : Spoil K G' H' P := by
  obtain ⟨a0, a1, a2, h1, h2, h3, h4, h5⟩ := h
  exact ⟨a0, a1, a2, s _ _ h1, h2, h3, h4, fun a ha => (h5 a ha).mv s n k⟩
theorem PasAt.seqIn {K : PySem.W.Frag} {G H H0 : Hp} {a : Addr} {t : Bool} {us : List V} {ds : List PyData} (h : PasAt K G H H0 a t us ds) (s : Same G H) (hl : ∀ d ∈ ds, isLst d = false) : SeqIn K G H (.ref a) ds := by
  refine ⟨a, t, us, rfl, ?_, fun e => ?_, ?_⟩
  · have q := h.sq
    cases t with
    | true => exact show SqT K H a us from .of (s _ _ q)
    | false => exact show SqL K H a us from .of q.1
  · subst e
    exact .of h.sq
  · have q := h.al
    clear h
    induction q with
    | nil => exact .nil
    | cons h r ih =>
      refine .cons ?_ (ih fun d hd => hl d (List.mem_cons_of_mem _ hd))
      cases h with
      | safe h1 h2 => exact h2
      | lst h1 h2 h3 h4 h5 => exact absurd (hl _ (List.mem_cons_self ..)) (by simp [isLst])
theorem PasAt.rowsIn {K : PySem.W.Frag} {G H H0 : Hp} {a : Addr} {t : Bool} {us : List V} {ds : List PyData} (h : PasAt K G H H0 a t us ds) (s : Same G H) : RowsIn K G H (.ref a) ds := by
  refine ⟨a, t, us, rfl, ?_, pd_map (fun u d q => ?_) h.al⟩
  · have q := h.sq
    cases t with
    | true => exact show SqT K H a us from .of (s _ _ q)
    | false => exact show SqL K H a us from .of q.1
  · cases q with
    | safe h1 h2 => exact .inl h2
    | @lst b ws es h1 h2 h3 h4 h5 => exact .inr ⟨by decide, b, false, ws, es, rfl, rfl, show SqL K H b ws from .of h1, h5⟩
theorem PasAt.spv {K : PySem.W.Frag} {G H H0 Gb : Hp} {no : Addr → Prop} {a : Addr} {t : Bool} {us : List V} {ds : List PyData} (h : PasAt K G H H0 a t us ds) (s : Same G Gb) (nb : ∀ b, H0 b = none → G b = none → Gb b = none) (hl : ds.length ≤ 10) (hd : ∀ d ∈ ds, d.bulk ≤ 100)
    (hno : ∀ b, H0 b = none → b ≠ a → (∃ es, PyData.list es ∈ ds) → no b) : SpV K Gb H no a := by
  refine ⟨t, us, ?_, by rw [pd_len h.al]; exact hl, fun u hu => ?_⟩
  · have q := h.sq
    cases t with
    | true => exact s _ _ q
    | false => exact ⟨q.1, nb _ h.n0 q.2⟩
  · obtain ⟨d, hdm, q⟩ := pd_mem h.al hu
    cases q with
    | safe h1 h2 => exact .inl ⟨d, h1, dp_at s h2⟩
    | @lst b ws es h1 h2 h3 h4 h5 =>
      refine .inr ⟨b, ws, rfl, h1, ?_, nb _ h3 h2, hno b h3 h4 ⟨es, hdm⟩⟩
      have := hd _ hdm
      have e := bulkAll_len es
      simp only [PyData.bulk] at this
      rw [dpa_len h5]
      omega
theorem PasAt.ex {K : PySem.W.Frag} {G H H0 : Hp} {a : Addr} {t : Bool} {us : List V} {ds : List PyData} (h : PasAt K G H H0 a t us ds) (s : Same G H) : ∃ o, H a = some o := by
  have q := h.sq
  cases t with
  | true => exact ⟨_, s _ _ q⟩
  | false => exact ⟨_, q.1⟩
structure MkAt (K : PySem.W.Frag) (mg : Str → Option Value) (cn : Str) (ps ks : List Str) (C f : Addr) (fd : FuncData) : Prop where
  M : Mk K C f
  m : mg cn = some (.ref C)
  b : ∃ g, KBn K fd ps 2 ks g (fun vs zs => vs ++ zs)
def spMade (K : PySem.W.Frag) (CS CV CW : Addr) : Sp := fun vs H Q _ => ∃ (dr : Addr) (c : Cont) (G : Hp), vs = [.ref dr] ∧ Same G H ∧ DrawnAt K G dr c ∧ c.Ok ∧
  ∀ m P sa ja wa G' H', Gr Z0 G H G' H' → G' m = some (.tup [.ref P, .ref sa, .ref ja, .ref wa]) → ObjsAt K CS CV CW G' sa ja wa c → (∀ Gb, Same G' Gb → (∀ b, H b = none → G' b = none → Gb b = none) → Spoil K Gb H' P) → Q (.ref m) H'
section
variable {P : Program} {w : World} {K : PySem.W.Frag} {mg : Str → Option Value} {base : Heap}
abbrev psS : List Str := ["self", "word", "squares", "degrees", "rows", "shown"]
abbrev psV : List Str := ["self", "word", "rule", "written", "tie", "sides"]
abbrev psW : List Str := ["self", "word", "rules", "quantity", "verdict"]
abbrev s_law_made : Stmt := top 17
theorem sc_law_made : FnScope ["drawn", "passed", "shaped", "judged", "whole"] ["drawn"] (defScope s_law_made) := ⟨rfl, rfl, rfl, by decide +kernel, rfl, by decide +kernel, by decide +kernel⟩
theorem ok_made {CS CV CW f f1 f2 f3 f4 : Addr} {fd fd1 fd2 fd3 fd4 : FuncData} (D : DefAt K mg "_law_made" s_law_made ["drawn"] f fd) (D1 : DefAt K mg "_law_passed" s_law_passed ["drawn", "key"] f1 fd1)
    (MS : MkAt K mg "SquareTable" psS ["squares", "degrees", "rows", "shown"] CS f2 fd2) (MV : MkAt K mg "Verdict" psV ["rule", "written", "tie", "sides"] CV f3 fd3) (MW : MkAt K mg "Whole" psW ["rules", "quantity", "verdict"] CW f4 fd4)
    (GS : FnOk P w K mg base CX0 5 f2 fd2 psS (spShape K CS)) (GV : FnOk P w K mg base CX0 1 f3 fd3 psV (spVer K CV)) (GW : FnOk P w K mg base CX0 1 f4 fd4 psW (spWho K CW)) (T : Bn mg) : FnOk P w K mg base CX0 7 f fd ["drawn"] (spMade K CS CV CW) := by
  have G_passed : FnOk P w K mg base CX0 1 f1 fd1 ["drawn", "key"] (spPassed K) := ok_passed D1 T
  obtain ⟨gS, bS⟩ := MS.b
  obtain ⟨gV, bV⟩ := MV.b
  obtain ⟨gW, bW⟩ := MW.b
  refine D.F.ok sc_law_made (fun vs H Q E h => ?_) (fun cdv A outer s H vs Q E hr h => ?_)
  · obtain ⟨dr, c, G, rfl, _⟩ := h
    rfl
  · obtain ⟨dr, c, G, rfl, sG, hdr, ok, k⟩ := h
    have hu := hu_of hr
    refine ⟨_, (pss_cons (ps_set (i := 1) sc_law_made.nd rfl (Or.inl rfl) (pe_lst (pa_cons (pe_call G_passed (hr.mono (by decide)) rfl D1.m D1.F.kp D1.b .nil pass0 (pa_cons (pv 0) (pa_cons pe_str pa_nil))) (pa_cons (pe_call G_passed (hr.mono (by decide)) rfl D1.m D1.F.kp D1.b .nil pass0 (pa_cons (pv 0) (pa_cons pe_str pa_nil))) (pa_cons (pe_call G_passed (hr.mono (by decide)) rfl D1.m D1.F.kp D1.b .nil pass0 (pa_cons (pv 0) (pa_cons pe_str pa_nil))) pa_nil)))))
    (pss_cons (ps_set (i := 2) sc_law_made.nd rfl (Or.inl rfl) (pe_makeK (n := 1) MS.M GS (hr.mono (by decide)) rfl MS.m bS pass0 (pa_cons (pe_dget hu (pv 0) pe_str (fun _ _ => rfl)) pa_nil) (pk_cons (pe_ix ix_list (pv 1) pe_int (fun _ _ => rfl)) (pk_cons (pe_ix ix_list (pv 1) pe_int (fun _ _ => rfl)) (pk_cons (pe_ix ix_list (pv 1) pe_int (fun _ _ => rfl)) (pk_cons (pe_dget hu (pv 0) pe_str (fun _ _ => rfl)) pk_nil))))))
    (pss_cons (ps_set (i := 3) sc_law_made.nd rfl (Or.inl rfl) (pe_makeK (n := 1) MV.M GV (hr.mono (by decide)) rfl MV.m bV pass0 (pa_cons (pe_dget hu (pv 0) pe_str (fun _ _ => rfl)) pa_nil) (pk_cons (pe_dget hu (pv 0) pe_str (fun _ _ => rfl)) (pk_cons (pe_dget hu (pv 0) pe_str (fun _ _ => rfl)) (pk_cons (pe_dget hu (pv 0) pe_str (fun _ _ => rfl)) (pk_cons (pe_ix ix_list (pv 1) pe_int (fun _ _ => rfl)) pk_nil))))))
    (pss_cons (ps_set (i := 4) sc_law_made.nd rfl (Or.inl rfl) (pe_makeK (n := 1) MW.M GW (hr.mono (by decide)) rfl MW.m bW pass0 (pa_cons (pe_dget hu (pv 0) pe_str (fun _ _ => rfl)) pa_nil) (pk_cons (pe_ix ix_list (pv 1) pe_int (fun _ _ => rfl)) (pk_cons (pe_dget hu (pv 0) pe_str (fun _ _ => rfl)) (pk_cons (pe_dget hu (pv 0) pe_str (fun _ _ => rfl)) pk_nil)))))
    (pss_one (ps_ret (pe_tup (pa_cons (pv 1) (pa_cons (pv 2) (pa_cons (pv 3) (pa_cons (pv 4) pa_nil))))))))))), ?_⟩
    obtain ⟨kvs, hd, _, hw, hl, h1, h2, h3, e1, e2, e3⟩ := hdr.ex
    have l1 := ok.l1
    have l2 := ok.l2
    have l3 := ok.l3
    refine ⟨_, rfl, dr, "one", G, kvs, c.one, c.lists, rfl, sG, hd, h1, hl, by omega, fun a0 t0 us0 G1 H1 g1 p0 => ?_⟩
    refine ⟨_, rfl, dr, "two", G1, kvs, c.two, c.lists, rfl, g1.sub, g1.sG _ _ hd, HasD.at_ g1.sG h2, hl.at_ g1.sG, by omega, fun a1 t1 us1 G2 H2 g2 p1 => ?_⟩
    refine ⟨_, rfl, dr, "lines", G2, kvs, c.lines, c.lists, rfl, g2.sub, g2.sG _ _ (g1.sG _ _ hd), HasD.at_ (g1.sG.trans g2.sG) h3, hl.at_ (g1.sG.trans g2.sG), by omega, fun a2 t2 us2 G3 H3 g3 p2 => ?_⟩
    refine ⟨by show 3 ≤ sizeLine; rw [sizeLine_eq]; decide, fun L hL => ?_⟩
    obtain ⟨o0, x0⟩ := p0.ex g1.sub
    obtain ⟨o1, x1⟩ := p1.ex g2.sub
    have ne01 : a0 ≠ a1 := ne_of_none x0 p1.n0
    have ne02 : a0 ≠ a2 := ne_of_none (g2.same _ _ x0) p2.n0
    have ne12 : a1 ≠ a2 := ne_of_none x1 p2.n0
    have hn0 : H2 a0 ≠ none := by rw [g2.same _ _ x0]; simp
    have hn1 : H2 a1 ≠ none := by rw [x1]; simp
    have g13 := (g1.trans g2).trans g3
    have gl := g13.mk1 (o := .lst [.ref a0, .ref a1, .ref a2]) hL
    have gL := (Gr.refl g13.sub).mk1 (Z := Z0) (o := .lst [.ref a0, .ref a1, .ref a2]) hL
    have p0 := ((p0.gr g2).gr g3).gr gL
    have p1 := (p1.gr g3).gr gL
    have p2 := p2.gr gL
    have hP : (upd G3 L (.lst [.ref a0, .ref a1, .ref a2])) L = some (.lst [.ref a0, .ref a1, .ref a2]) := upd_same
    revert gl p0 p1 p2 hP
    clear gL
    generalize upd G3 L (.lst [.ref a0, .ref a1, .ref a2]) = G4
    generalize upd H3 L (.lst [.ref a0, .ref a1, .ref a2]) = H4
    intro gl p0 p1 p2 hP
    obtain ⟨vw, kw, dw⟩ := hw
    obtain ⟨v1, k1, q1⟩ := e1
    obtain ⟨v2, k2, q2⟩ := e2
    obtain ⟨v3, k3, q3⟩ := e3
    cases dw
    have hd4 : H4 dr = some (.dK kvs) := gl.sub _ _ (gl.sG _ _ hd)
    have hP4 := gl.sub _ _ hP
    -- SquareTable(..)
    refine ⟨_, rfl, dr, _, rfl, dget_of hd4 kw, _, rfl, L, _, _, _, rfl, rfl, .of hP4, rfl, _, rfl, L, _, _, _, rfl, rfl, .of hP4, rfl, _, rfl, L, _, _, _, rfl, rfl, .of hP4, rfl, _, rfl, dr, _, rfl, dget_of hd4 k1, rfl, rfl, fun sa dx hs hdx nes => ?_⟩
    have gm := ((Gr.refl (Z := Z0) gl.sub).mk0 (o := .own sa) hdx).mk0 (o := .ins CS dx []) (show upd H4 dx (.own sa) sa = none by rw [upd_ne nes.symm]; exact hs)
    have hsa : (upd (upd H4 dx (.own sa)) sa (.ins CS dx [])) sa = some (.ins CS dx []) := upd_same
    revert gm hsa
    generalize upd (upd H4 dx (.own sa)) sa (.ins CS dx []) = H5
    intro gm hsa
    have keep : ∀ (t : Bool) (a : Addr) (us : List V), Sq K t H4 a us → Sq K t H5 a us := fun t a us q => sq_at gm.same q
    have bulk1 : ∀ d ∈ c.lines, d.bulk ≤ 1000 := fun d h => Nat.le_trans (ok.a3 d h).b (by decide)
    refine ⟨sa, dx, G4, c.word, .ref a0, .ref a1, .ref a2, v1, c.one, c.two, c.lines, c.fst, rfl, hsa, gl.sub.free hs, gm.sub, (p0.seqIn gl.sub fun d h => (ok.a1 d h).2).mv (Same.refl _) keep, (p1.seqIn gl.sub fun d h => (ok.a2 d h).2).mv (Same.refl _) keep, (p2.rowsIn gl.sub).mv (Same.refl _) keep, dp_at gl.sG q1, l2, l3, by omega, bulk1, Nat.le_trans ok.f1.1.b (by decide), fun G6 H6 fs gg gx hx sh => ⟨rfl, ?_⟩⟩
    have g46 := gm.drop gg hs
    have gA := gl.trans (g46.safe hs hx gx)
    have gA4 := g46.safe hs hx gx
    have s6 := same_upd (o := .ins CS dx fs) gx
    have p0 := p0.gr gA4
    have p1 := p1.gr gA4
    have p2 := p2.gr gA4
    have hP := gA4.sG _ _ hP
    have oS : ∃ dx' fs', (upd G6 sa (.ins CS dx fs)) sa = some (.ins CS dx' fs') ∧ ShFs K (upd G6 sa (.ins CS dx fs)) fs' c.word c.one c.two (c.lines.map keptD) c.fst := ⟨dx, fs, upd_same, sh.at_ s6⟩
    clear gA4 s6 sh gx g46 gg gl
    revert gA p0 p1 p2 hP oS
    generalize upd G6 sa (.ins CS dx fs) = G7
    intro gA p0 p1 p2 hP oS
    clear hd4 hP4
    have hd7 : H6 dr = some (.dK kvs) := gA.sub _ _ (gA.sG _ _ hd)
    have hP7 := gA.sub _ _ hP
    -- Verdict(..)
    refine ⟨_, rfl, dr, _, rfl, dget_of hd7 kw, _, rfl, dr, _, rfl, dget_of hd7 k1, _, rfl, dr, _, rfl, dget_of hd7 k2, _, rfl, dr, _, rfl, dget_of hd7 k3, _, rfl, L, _, _, _, rfl, rfl, .of hP7, rfl, rfl, rfl, fun ja dj hj hdj nej => ?_⟩
    have gm7 := ((Gr.refl (Z := Z0) gA.sub).mk0 (o := .own ja) hdj).mk0 (o := .ins CV dj []) (show upd H6 dj (.own ja) ja = none by rw [upd_ne nej.symm]; exact hj)
    have hja : (upd (upd H6 dj (.own ja)) ja (.ins CV dj [])) ja = some (.ins CV dj []) := upd_same
    revert gm7 hja
    generalize upd (upd H6 dj (.own ja)) ja (.ins CV dj []) = H8
    intro gm7 hja
    refine ⟨ja, dj, G7, c.word, v1, v2, v3, .ref a0, c.fst, c.snd, c.thd, c.one, rfl, hja, gA.sub.free hj, gm7.sub, dp_at gA.sG q1, dp_at gA.sG q2, dp_at gA.sG q3, (p0.seqIn gA.sub fun d h => (ok.a1 d h).2).mv (Same.refl _) (fun t a us q => sq_at gm7.same q), fun G9 H9 fj gg gx hx vf => ⟨rfl, ?_⟩⟩
    have g79 := gm7.drop gg hj
    have gB := gA.trans (g79.safe hj hx gx)
    have gB7 := g79.safe hj hx gx
    have s9 := same_upd (o := .ins CV dj fj) gx
    have p0 := p0.gr gB7
    have p1 := p1.gr gB7
    have p2 := p2.gr gB7
    have hP := gB7.sG _ _ hP
    have oV : ∃ dx fs, (upd G9 ja (.ins CV dj fj)) ja = some (.ins CV dx fs) ∧ VeFs K (upd G9 ja (.ins CV dj fj)) fs c.word c.fst c.snd c.thd c.one := ⟨dj, fj, upd_same, vf.at_ s9⟩
    have oS : ∃ dx fs, (upd G9 ja (.ins CV dj fj)) sa = some (.ins CS dx fs) ∧ ShFs K (upd G9 ja (.ins CV dj fj)) fs c.word c.one c.two (c.lines.map keptD) c.fst := by
      obtain ⟨a, b, h1, h2⟩ := oS
      exact ⟨a, b, gB7.sG _ _ h1, h2.at_ gB7.sG⟩
    clear gB7 s9 vf gx g79 gg gA hd7 hP7 gm7
    revert gB p0 p1 p2 hP oS oV
    generalize upd G9 ja (.ins CV dj fj) = G10
    intro gB p0 p1 p2 hP oV oS
    have hd9 : H9 dr = some (.dK kvs) := gB.sub _ _ (gB.sG _ _ hd)
    have hP9 := gB.sub _ _ hP
    -- Whole(..)
    refine ⟨_, rfl, dr, _, rfl, dget_of hd9 kw, _, rfl, L, _, _, _, rfl, rfl, .of hP9, rfl, _, rfl, dr, _, rfl, dget_of hd9 k2, _, rfl, dr, _, rfl, dget_of hd9 k3, rfl, rfl, fun wa dw hw hdw new => ?_⟩
    have gm9 := ((Gr.refl (Z := Z0) gB.sub).mk0 (o := .own wa) hdw).mk0 (o := .ins CW dw []) (show upd H9 dw (.own wa) wa = none by rw [upd_ne new.symm]; exact hw)
    have hwa : (upd (upd H9 dw (.own wa)) wa (.ins CW dw [])) wa = some (.ins CW dw []) := upd_same
    revert gm9 hwa
    generalize upd (upd H9 dw (.own wa)) wa (.ins CW dw []) = H11
    intro gm9 hwa
    refine ⟨wa, dw, G10, c.word, .ref a1, v2, v3, c.two, c.snd, c.thd, rfl, hwa, gB.sub.free hw, gm9.sub, (p1.seqIn gB.sub fun d h => (ok.a2 d h).2).mv (Same.refl _) (fun t a us q => sq_at gm9.same q), dp_at gB.sG q2, dp_at gB.sG q3, fun G12 H12 fw gg gx hx wf => ⟨rfl, ?_⟩⟩
    have g912 := gm9.drop gg hw
    have gC := gB.trans (g912.safe hw hx gx)
    have gC9 := g912.safe hw hx gx
    have s12 := same_upd (o := .ins CW dw fw) gx
    have p0 := p0.gr gC9
    have p1 := p1.gr gC9
    have p2 := p2.gr gC9
    have hP := gC9.sG _ _ hP
    have oW : ∃ dx fs, (upd G12 wa (.ins CW dw fw)) wa = some (.ins CW dx fs) ∧ WhFs K (upd G12 wa (.ins CW dw fw)) fs c.word c.two c.snd c.thd := ⟨dw, fw, upd_same, wf.at_ s12⟩
    have oS : ∃ dx fs, (upd G12 wa (.ins CW dw fw)) sa = some (.ins CS dx fs) ∧ ShFs K (upd G12 wa (.ins CW dw fw)) fs c.word c.one c.two (c.lines.map keptD) c.fst := by
      obtain ⟨a, b, h1, h2⟩ := oS
      exact ⟨a, b, gC9.sG _ _ h1, h2.at_ gC9.sG⟩
    have oV : ∃ dx fs, (upd G12 wa (.ins CW dw fw)) ja = some (.ins CV dx fs) ∧ VeFs K (upd G12 wa (.ins CW dw fw)) fs c.word c.fst c.snd c.thd c.one := by
      obtain ⟨a, b, h1, h2⟩ := oV
      exact ⟨a, b, gC9.sG _ _ h1, h2.at_ gC9.sG⟩
    clear gC9 s12 wf gx g912 gg gB hd9 hP9 gm9
    revert gC p0 p1 p2 hP oS oV oW
    generalize upd G12 wa (.ins CW dw fw) = G13
    intro gC p0 p1 p2 hP oW oS oV
    -- the tuple
    refine ⟨_, rfl, _, rfl, _, rfl, _, rfl, by show 4 ≤ sizeLine; rw [sizeLine_eq]; decide, fun m hm => ?_⟩
    have gD := gC.mk1 (o := .tup [.ref L, .ref sa, .ref ja, .ref wa]) hm
    have gDC := (Gr.refl (Z := Z0) gC.sub).mk1 (o := .tup [.ref L, .ref sa, .ref ja, .ref wa]) hm
    refine k m L sa ja wa _ _ gD upd_same (ObjsAt.at_ gDC.sG ⟨oS, oV, oW⟩) fun Gb sb nb => ?_
    have p0 := p0.gr gDC
    have p1 := p1.gr gDC
    have p2 := p2.gr gDC
    have f1 : ∀ b, H1 b = none → H b = none := fun b e => g1.old e
    have f2 : ∀ b, H2 b = none → H b = none := fun b e => g1.old (g2.old e)
    have nl : ∀ {ds : List PyData}, (∀ d ∈ ds, AnyD d) → ¬ ∃ es, PyData.list es ∈ ds := fun {ds} h ⟨es, hm⟩ => absurd (h _ hm).2 (by simp [isLst])
    refine ⟨a0, a1, a2, sb _ _ (gDC.sG _ _ hP), ne01, ne02, ne12, fun a ha => ?_⟩
    simp only [List.mem_cons, List.not_mem_nil, or_false] at ha
    rcases ha with rfl | rfl | rfl
    · exact p0.spv sb nb (by omega) (fun d h => Nat.le_trans (ok.a1 d h).1.b (by decide)) fun b _ _ h => absurd h (nl ok.a1)
    · exact p1.spv sb (fun b e => nb b (f1 b e)) (by omega) (fun d h => Nat.le_trans (ok.a2 d h).1.b (by decide)) fun b _ _ h => absurd h (nl ok.a2)
    · refine p2.spv sb (fun b e => nb b (f2 b e)) (by omega) (fun d h => Nat.le_trans (ok.a3 d h).b (by decide)) fun b hb hne _ => ?_
      intro hmem
      simp only [List.mem_cons, List.not_mem_nil, or_false] at hmem
      rcases hmem with rfl | rfl | rfl
      · exact hn0 hb
      · exact hn1 hb
      · exact hne rfl
end
end B7
namespace B7
open PySem PySem.Spec PyProof.Rows L2
def spSpoilt (K : PySem.W.Frag) : Sp := fun vs H Q _ => ∃ (L : Addr) (G : Hp), vs = [.ref L] ∧ Same G H ∧ Spoil K G H L ∧ ∀ H', Same G H' → Q .non H'
/-- an inner list that was passed -/
def InB (G H : Hp) (as : List Addr) (b : Addr) : Prop := b ∉ as ∧ G b = none ∧ ∃ ws, H b = some (.lst ws) ∧ ws.length ≤ 100
def Inn (G H : Hp) (as : List Addr) (H2 : Hp) (n : Nat) : Prop := ∀ b, InB G H as b → ∃ ws, H2 b = some (.lst ws) ∧ ws.length ≤ 100 + n
structure SpSt (G H : Hp) (as : List Addr) (i n : Nat) (H2 : Hp) : Prop where
  s : Same G H2
  a : ∀ j a, i ≤ j → as[j]? = some a → ∀ o, H a = some o → H2 a = some o
  n : Inn G H as H2 n
theorem SpSt.mono {G H H2 : Hp} {as : List Addr} {i n i' n' : Nat} (x : SpSt G H as i n H2) (h1 : i ≤ i') (h2 : n ≤ n') : SpSt G H as i' n' H2 :=
  ⟨x.s, fun j a hj => x.a j a (Nat.le_trans h1 hj), fun b hb => by
    obtain ⟨ws, q1, q2⟩ := x.n b hb
    exact ⟨ws, q1, by omega⟩⟩
theorem SpSt.inner {G H H2 : Hp} {as : List Addr} {i n : Nat} {b : Addr} {ws : List V} (x : SpSt G H as i n H2) (hb : InB G H as b) (hl : ws.length ≤ 100 + (n + 1)) : SpSt G H as i (n + 1) (upd H2 b (.lst ws)) := by
  refine ⟨fun c o e => ?_, fun j a hj ha o e => ?_, fun c hc => ?_⟩
  · rw [upd_ne (ne_of_none e hb.2.1)]; exact x.s _ _ e
  · have q : a ≠ b := fun z => hb.1 (by rw [← z]; exact List.mem_of_getElem? ha)
    rw [upd_ne q]; exact x.a j a hj ha o e
  · by_cases q : c = b
    · subst q; exact ⟨ws, upd_same, hl⟩
    · obtain ⟨ws', h1, h2⟩ := x.n c hc
      exact ⟨ws', by rw [upd_ne q]; exact h1, by omega⟩
theorem SpSt.outer {G H H2 : Hp} {as : List Addr} {i n : Nat} {a : Addr} {o : HO} (x : SpSt G H as i n H2) (ha : as[i]? = some a) (ga : G a = none) (hd : ∀ (j : Nat) (b : Addr), as[j]? = some b → j ≠ i → b ≠ a) : SpSt G H as (i + 1) n (upd H2 a o) := by
  refine ⟨fun c u e => ?_, fun j b hj hb u e => ?_, fun c hc => ?_⟩
  · rw [upd_ne (ne_of_none e ga)]; exact x.s _ _ e
  · rw [upd_ne (hd j b hb (by omega))]; exact x.a j b (by omega) hb u e
  · have q : c ≠ a := fun z => hc.1 (by rw [z]; exact List.mem_of_getElem? ha)
    obtain ⟨ws', h1, h2⟩ := x.n c hc
    exact ⟨ws', by rw [upd_ne q]; exact h1, h2⟩
section
variable {P : Program} {w : World} {K : PySem.W.Frag} {mg : Str → Option Value} {base : Heap}
abbrev s_law_spoilt : Stmt := top 18
theorem sc_law_spoilt : FnScope ["passed", "values", "value"] ["passed"] (defScope s_law_spoilt) := ⟨rfl, rfl, rfl, by decide +kernel, rfl, by decide +kernel, by decide +kernel⟩
theorem ok_spoilt {f : Addr} {fd : FuncData} (D : DefAt K mg "_law_spoilt" s_law_spoilt ["passed"] f fd) (T : Bn mg) : FnOk P w K mg base CX0 1 f fd ["passed"] (spSpoilt K) := by
  refine D.F.ok sc_law_spoilt (fun vs H Q E h => ?_) (fun cdv A outer s H vs Q E hr h => ?_)
  · obtain ⟨L, G, rfl, _⟩ := h
    rfl
  · obtain ⟨L, G, rfl, sG, ⟨a0, a1, a2, hL, n01, n02, n12, hS⟩, k⟩ := h
    refine ⟨_, (pss_one (ps_for PassesOwn.never rfl (pi_list (pv 0)) (pg_name (i := 1) sc_law_spoilt.nd rfl (Or.inl rfl))
      (pss_cons (ps_for PassesOwn.never rfl (pi_seq (pv 1)) (pg_name (i := 2) sc_law_spoilt.nd rfl (Or.inl rfl))
        (pss_one (ps_if (pt_val (pe_callB call_isi (by rfl) T.n_isinstance PyProof.Rows.boot_isinstance (pa_cons (pv 2) (pa_cons (pe_bltn (v := .ty "list") (by rfl) T.n_list PyProof.Rows.boot_list rfl) pa_nil))))
          (pss_one (ps_expr (pe_bm PySem.F.plainAttrs_list PySem.F.slot_list_append PySem.F.type_list_append mt_append (pv 2) (pa_cons pe_str pa_nil))))
          pss_nil)))
      (pss_one (ps_if (pt_val (pe_callB call_isi (by rfl) T.n_isinstance PyProof.Rows.boot_isinstance (pa_cons (pv 1) (pa_cons (pe_bltn (v := .ty "list") (by rfl) T.n_list PyProof.Rows.boot_list rfl) pa_nil))))
        (pss_cons (ps_expr (pe_bm PySem.F.plainAttrs_list PySem.F.slot_list_append PySem.F.type_list_append mt_append (pv 1) (pa_cons pe_str pa_nil)))
        (pss_one (ps_asg pe_str (pg_sub (pv 1) pe_int set_list))))
        pss_nil))))), ?_⟩
    have dist : ∀ (i j : Nat) (a b : Addr), [a0, a1, a2][i]? = some a → [a0, a1, a2][j]? = some b → i ≠ j → a ≠ b := by
      intro i j a b hi hj hij
      have li := (List.getElem?_eq_some_iff.mp hi).1
      have lj := (List.getElem?_eq_some_iff.mp hj).1
      simp only [List.length_cons, List.length_nil] at li lj
      rcases i with _ | _ | _ | i <;> rcases j with _ | _ | _ | j <;> first | omega | (simp at hi hj; subst hi hj; first | assumption | exact n01.symm | exact n02.symm | exact n12.symm)
    refine ⟨_, rfl, L, rfl, ⟨_, .of (sG _ _ hL)⟩, for_list (K := K) (a := L) (xs := [.ref a0, .ref a1, .ref a2]) (fun i σ H2 => ∃ x y, σ = [some (.ref L), x, y] ∧ SpSt G H [a0, a1, a2] i (20 * i) H2) ?_ ?_ ?_ ?_⟩
    · exact ⟨none, none, rfl, sG, fun _ _ _ _ _ e => e, fun b ⟨_, _, ws, h1, h2⟩ => ⟨ws, h1, by omega⟩⟩
    · rintro i σ H2 _ ⟨_, _, _, st⟩
      exact .of (st.s _ _ hL)
    · rintro i x σ H2 hx ⟨x0, y0, rfl, st⟩
      obtain ⟨a, ha, rfl⟩ : ∃ a, [a0, a1, a2][i]? = some a ∧ x = .ref a := by
        have q : ([a0, a1, a2].map V.ref)[i]? = some x := hx
        rw [List.getElem?_map] at q
        obtain ⟨a, h1, h2⟩ := Option.map_eq_some_iff.mp q
        exact ⟨a, h1, h2.symm⟩
      have hil : i < 3 := (List.getElem?_eq_some_iff.mp ha).1
      obtain ⟨t, us, hsq, hus, hel⟩ := hS a (List.mem_of_getElem? ha)
      have q2 : ∀ n H3, SpSt G H [a0, a1, a2] i n H3 → Sq K t H3 a us := by
        intro n H3 st
        cases t with
        | true => exact show SqT K H3 a us from .of (st.s _ _ hsq)
        | false => exact show SqL K H3 a us from .of (st.a i a (Nat.le_refl _) ha _ hsq.1)
      refine ⟨_, rfl, a, t, us, rfl, q2 _ _ st, for_seq (K := K) (t := t) (a := a) (xs := us) (fun j σ H3 => ∃ y, σ = [some (.ref L), some (.ref a), y] ∧ SpSt G H [a0, a1, a2] i (20 * i + j) H3) ?_ ?_ ?_ ?_⟩
      · exact ⟨_, rfl, st⟩
      · rintro j σ H3 _ ⟨_, _, st3⟩
        exact q2 _ _ st3
      · rintro j u σ H3 hu ⟨y, rfl, st3⟩
        have hj : j < us.length := (List.getElem?_eq_some_iff.mp hu).1
        rcases hel u (List.mem_of_getElem? hu) with ⟨d, hnl, hd⟩ | ⟨b, ws, rfl, hb, hws, gb, nb⟩
        · obtain ⟨ty, h3, h4⟩ := isi_list (dp_at st3.s hd)
          rw [hnl] at h4
          refine ⟨_, rfl, _, _, ty, _, _, rfl, .ty "list", h3, h4, _, rfl, ?_⟩
          exact iteF ⟨_, rfl, st3.mono (Nat.le_refl _) (by omega)⟩
        · have ib : InB G H [a0, a1, a2] b := ⟨nb, gb, ws, hb, hws⟩
          obtain ⟨ws2, e2, l2⟩ := st3.n b ib
          refine ⟨_, rfl, _, _, _, _, true, rfl, .ty "list", tyL (.of e2), kit_ty (by decide +kernel), _, rfl, ?_⟩
          refine iteT ⟨_, rfl, .inl ⟨rfl, _, .of e2⟩, b, ws2, _, rfl, rfl, e2, by rw [sizeLine_eq]; omega, _, rfl, ?_⟩
          exact st3.inner ib (by rw [List.length_append]; simp only [List.length_cons, List.length_nil]; omega)
      · rintro σ H3 ⟨y, rfl, st3⟩
        cases t with
        | true =>
          have hq : SqT K H3 a us := q2 _ _ st3
          refine ⟨_, rfl, _, _, _, _, false, rfl, .ty "list", tyT hq, kit_ty (by decide +kernel), _, rfl, ?_⟩
          exact iteF ⟨_, _, rfl, st3.mono (by omega) (by omega)⟩
        | false =>
          have hq : SqL K H3 a us := q2 _ _ st3
          have h3a := st3.a i a (Nat.le_refl _) ha _ hsq.1
          have ga : G a = none := hsq.2
          refine ⟨_, rfl, _, _, _, _, true, rfl, .ty "list", tyL hq, kit_ty (by decide +kernel), _, rfl, ?_⟩
          refine iteT ⟨_, rfl, .inl ⟨rfl, _, .of h3a⟩, a, us, _, rfl, rfl, h3a, by rw [sizeLine_eq]; omega, _, rfl, a, _, 0, 0, rfl, rfl, upd_same, ?_, ?_⟩
          · unfold ixN
            rw [if_pos (by decide), if_pos (by rw [List.length_append]; simp only [List.length_cons, List.length_nil]; omega)]
            rfl
          · refine ⟨_, _, rfl, ?_⟩
            have d' : ∀ (j : Nat) (b : Addr), [a0, a1, a2][j]? = some b → j ≠ i → b ≠ a := fun j b hb hji => dist j i b a hb ha hji
            have st4 := st3.outer (o := .lst (us ++ [.str "changed"])) ha ga d'
            refine ⟨fun c o e => ?_, fun j b hj hb o e => ?_, fun c hc => ?_⟩
            · rw [upd_ne (ne_of_none e ga)]; exact st4.s _ _ e
            · rw [upd_ne (d' j b hb (by omega))]; exact st4.a j b hj hb o e
            · have q : c ≠ a := fun z => hc.1 (by rw [z]; exact List.mem_of_getElem? ha)
              obtain ⟨ws', h1, h2⟩ := st4.n c hc
              exact ⟨ws', by rw [upd_ne q]; exact h1, by omega⟩
    · rintro σ H2 ⟨_, _, rfl, st⟩
      exact k H2 st.s
end
end B7
namespace B7
open PySem PySem.Spec PyProof.Rows L2 ItX
abbrev s_SquareTable_iter : Stmt := inClass (top 3) 2
theorem sc_SquareTable_iter : FnScope ["self"] ["self"] (defScope s_SquareTable_iter) := ⟨rfl, rfl, rfl, by decide +kernel, rfl, by decide +kernel, by decide +kernel⟩
structure ItM (K : PySem.W.Frag) (C f : Addr) (fd : FuncData) : Prop where
  F : Fun K "__iter__" "SquareTable.__iter__" s_SquareTable_iter f fd
  b : Binds K fd ["self"] []
  hi : PySem.W.findIn K (.ref C) "__iter__" = some (some (.ref f))
  hf : PySem.W.isFn K (.ref f) = true
structure LnM (K : PySem.W.Frag) (C f : Addr) (fd : FuncData) : Prop where
  F : Fun K "__len__" "SquareTable.__len__" s_SquareTable_len f fd
  b : Binds K fd ["self"] []
  hi : PySem.W.findIn K (.ref C) "__len__" = some (some (.ref f))
  hf : PySem.W.isFn K (.ref f) = true
theorem pi_sq {X : Cx} {tg e : Expr} {te : TE} {C f : Addr} {fd : FuncData} (he : PE X e te) (M : ItM X.K C f fd) (S : ShC X.K C) (hm : X.mg "iter" = none) (hr : Room 1 X.A) : PI X tg e (iTri X.K C te) :=
  pi_tri he M.F rfl sc_SquareTable_iter rfl M.b S.cl S.t M.hi M.hf hm hr
/-- two alike -/
def PairOk (K : PySem.W.Frag) (H : Hp) (p : Addr) : Prop := ∃ a b d, H p = some (.tup [a, b]) ∧ Dp K H a d ∧ Dp K H b d ∧ Bd 20 100000 d
theorem PairOk.at_ {K : PySem.W.Frag} {H H' : Hp} {p : Addr} (s : Same H H') (h : PairOk K H p) : PairOk K H' p := by
  obtain ⟨a, b, d, h1, h2, h3, h4⟩ := h
  exact ⟨a, b, d, s _ _ h1, dp_at s h2, dp_at s h3, h4⟩
theorem pair_step {K : PySem.W.Frag} {ta tb : TE} {tr : TA} {σ : L2.St} {H : Hp} {R : List V → Hp → Prop} (a b : V) (d : PyData) (h1 : ∀ R : VK, R a H → ta σ H R) (h2 : ∀ R : VK, R b H → tb σ H R) (da : Dp K H a d) (db : Dp K H b d) (bd : Bd 20 100000 d)
    (k : ∀ p H', Same H H' → PairOk K H' p → tr σ H' (fun xs H2 => R (.ref p :: xs) H2)) : tCons (tTup (tCons ta (tCons tb tNil))) tr σ H R := by
  refine h1 _ (h2 _ ⟨by show 2 ≤ sizeLine; rw [sizeLine_eq]; decide, fun p hp => k p _ (same_upd hp) ⟨a, b, d, upd_same, dp_at (same_upd hp) da, dp_at (same_upd hp) db, bd⟩⟩)
theorem fld_rd {K : PySem.W.Frag} {σ : L2.St} {i : Nat} {x C dx : Addr} {fs : List (Str × V)} {name : Str} {v : V} {H : Hp} (hσ : σ[i]? = some (some (.ref x))) (hx : H x = some (.ins C dx fs)) (cl : Cls K C) (na : NoAttr K C name) (lk : fs.lookup name = some v) (R : VK) (q : R v H) : tFld K (tVar i) name σ H R :=
  ⟨_, hσ, x, C, dx, fs, v, rfl, hx, cl, na, lk, q⟩
theorem dg_rd {σ : L2.St} {i : Nat} {a : Addr} {kvs : List (Key × V)} {key : Str} {v : V} {H : Hp} (hσ : σ[i]? = some (some (.ref a))) (ha : H a = some (.dK kvs)) (lk : valV kvs (.inr key : Key) = some v) (R : VK) (q : R v H) : tDGet (tVar i) (tC (.str key)) σ H R :=
  ⟨_, hσ, a, v, rfl, dget_of ha lk, q⟩
theorem vr_rd {σ : L2.St} {i : Nat} {v : V} {H : Hp} (hσ : σ[i]? = some (some v)) (R : VK) (q : R v H) : tVar i σ H R := ⟨v, hσ, q⟩
theorem lst_in {t : TA} {g : TG} {rest : TS} {D : Ends} {R : VK} {B C : L2.St → Hp → Prop} {σ : L2.St} {H : Hp} (h : t σ H fun xs H1 => xs.length ≤ sizeLine ∧ ∀ p, H1 p = none → g (.ref p) σ (upd H1 p (.lst xs)) (rest D)) : (Ends.mk (tSeq (tAsg (tLst t) g) rest D) R B C).nx σ H := h
theorem RowD.kept {d : PyData} (h : RowD d) : RowD (keptD d) := by
  cases d with
  | list ds => exact ⟨by simpa only [keptD, PyData.showable] using h.s, by simpa only [keptD, PyData.hasDict] using h.h, by simpa only [keptD, PyData.leavesShort] using h.l, by simpa only [keptD, PyData.depth] using h.e, by simpa only [keptD, PyData.bulk] using h.b⟩
  | _ => exact h
theorem mul_small {a m n k : Nat} (h : a ≤ n) (hk : n * m ≤ k) : a * m ≤ k := Nat.le_trans (Nat.mul_le_mul_right _ h) hk
theorem zipD_len {a b c : List PyData} : (zipD a b c).length = a.length := by unfold zipD; rw [List.length_map, List.length_range]
theorem zipD_get {a b c : List PyData} {i : Nat} {x y z : PyData} (ha : a[i]? = some x) (hb : b[i]? = some y) (hc : c[i]? = some z) : (zipD a b c)[i]? = some (.tuple [x, y, z]) := by
  have hi := (List.getElem?_eq_some_iff.mp ha).1
  have gd : ∀ {l : List PyData} {d : PyData}, l[i]? = some d → l.getD i .none = d := fun {l d} e => by rw [List.getD_eq_getElem?_getD, e]; rfl
  unfold zipD
  rw [List.getElem?_map, List.getElem?_eq_getElem (by rw [List.length_range]; exact hi), List.getElem_range]
  simp only [Option.map_some, gd ha, gd hb, gd hc]
theorem zipD_mem {a b c : List PyData} {d : PyData} (h2 : b.length = a.length) (h3 : c.length = a.length) (h : d ∈ zipD a b c) : ∃ x y z, x ∈ a ∧ y ∈ b ∧ z ∈ c ∧ d = .tuple [x, y, z] := by
  obtain ⟨i, hi, rfl⟩ := List.getElem_of_mem h
  rw [zipD_len] at hi
  have q := zipD_get (List.getElem?_eq_getElem hi) (List.getElem?_eq_getElem (show i < b.length by omega)) (List.getElem?_eq_getElem (show i < c.length by omega))
  rw [List.getElem?_eq_getElem (by rw [zipD_len]; exact hi)] at q
  exact ⟨_, _, _, List.getElem_mem _, List.getElem_mem _, List.getElem_mem _, Option.some.inj q⟩
/-- the sizes of what is compared -/
structure Cont.Sm (c : Cont) : Prop where
  o : Bd 20 100000 (.tuple c.one)
  t : Bd 20 100000 (.tuple c.two)
  l : Bd 20 100000 (.tuple (c.lines.map keptD))
  z : Bd 20 100000 (.list (zipD c.one c.two (c.lines.map keptD)))
  w : Bd 20 100000 (.list ((zipD c.one c.two (c.lines.map keptD)).map fun x => .tuple [x, .list (zipD c.one c.two (c.lines.map keptD))]))
theorem Cont.Ok.sm {c : Cont} (ok : c.Ok) : c.Sm := by
  have l1 := ok.l1
  have l2 := ok.l2
  have l3 := ok.l3
  have hk : ∀ d ∈ c.lines.map keptD, Bd 3 60 d := fun d hd => by
    obtain ⟨x, hx, rfl⟩ := List.mem_map.mp hd
    exact RowD.kept (ok.a3 x hx)
  have hz : ∀ d ∈ zipD c.one c.two (c.lines.map keptD), Bd 4 183 d := fun d hd => by
    obtain ⟨x, y, z, hx, hy, hz, rfl⟩ := zipD_mem l2 (by rw [List.length_map]; exact l3) hd
    refine Bd.tup (n := 3) (m := 60) (fun d hd => ?_) (by simp)
    simp only [List.mem_cons, List.not_mem_nil, or_false] at hd
    rcases hd with rfl | rfl | rfl
    · exact (ok.a1 _ hx).1.mono (by decide) (by decide)
    · exact (ok.a2 _ hy).1.mono (by decide) (by decide)
    · exact hk _ hz
  have hzl : Bd 5 1104 (.list (zipD c.one c.two (c.lines.map keptD))) := Bd.lst hz (by rw [zipD_len]; exact mul_small l1 (by decide))
  refine ⟨(Bd.tup (fun d hd => (ok.a1 d hd).1) (k := 78) (mul_small l1 (by decide))).mono (by decide) (by decide), (Bd.tup (fun d hd => (ok.a2 d hd).1) (k := 78) (mul_small (Nat.le_trans (Nat.le_of_eq l2) l1) (by decide))).mono (by decide) (by decide),
    (Bd.tup hk (k := 366) (by rw [List.length_map]; exact mul_small (Nat.le_trans (Nat.le_of_eq l3) l1) (by decide))).mono (by decide) (by decide), hzl.mono (by decide) (by decide), ?_⟩
  refine (Bd.lst (n := 6) (m := 2210) (k := 13266) (fun d hd => ?_) (by rw [List.length_map, zipD_len]; exact mul_small l1 (by decide))).mono (by decide) (by decide)
  obtain ⟨x, hx, rfl⟩ := List.mem_map.mp hd
  refine Bd.tup (n := 5) (m := 1104) (fun d hd => ?_) (by simp)
  simp only [List.mem_cons, List.not_mem_nil, or_false] at hd
  rcases hd with rfl | rfl
  · exact (hz _ hx).mono (by decide) (by decide)
  · exact hzl
def spHolds (K : PySem.W.Frag) (CS CV CW : Addr) : Sp := fun vs H Q _ => ∃ (dr sa ja wa : Addr) (c : Cont), vs = [.ref dr, .ref sa, .ref ja, .ref wa] ∧ DrawnAt K H dr c ∧ c.Ok ∧ ObjsAt K CS CV CW H sa ja wa c ∧ ∀ H', Same H H' → Q (.bl true) H'
section
variable {P : Program} {w : World} {K : PySem.W.Frag} {mg : Str → Option Value} {base : Heap}
abbrev s_law_holds : Stmt := top 20
abbrev nHolds : List Str := ["drawn", "shaped", "judged", "whole", "one", "two", "lines", "pairs", "actual", "due", "again", "walked", "outer", "value", "k", "entry", "inner"]
theorem sc_law_holds : FnScope nHolds ["drawn", "shaped", "judged", "whole"] (defScope s_law_holds) := ⟨rfl, rfl, rfl, by decide +kernel, rfl, by decide +kernel, by decide +kernel⟩
theorem ok_holds {CS CV CW f f1 f2 f3 f4 f5 : Addr} {fd fd1 fd2 fd3 fd4 fd5 : FuncData} (D : DefAt K mg "_law_holds" s_law_holds ["drawn", "shaped", "judged", "whole"] f fd) (D1 : DefAt K mg "_law_alike" s_law_alike ["actual", "due"] f1 fd1) (D2 : DefAt K mg "_law_is_count" s_law_is_count ["value"] f2 fd2)
    (D3 : DefAt K mg "_law_kept" s_law_kept ["value"] f3 fd3) (IM : ItM K CS f4 fd4) (LM : LnM K CS f5 fd5) (XS : ShC K CS) (XV : VeC K CV) (XW : WhC K CW) (T : Bn mg) : FnG P w K mg base 3 f fd ["drawn", "shaped", "judged", "whole"] (spHolds K CS CV CW) := by
  have G_alike : FnG P w K mg base 1 f1 fd1 ["actual", "due"] (spAlike K) := ok_alike D1 T
  have G_count : FnOk P w K mg base CX0 1 f2 fd2 ["value"] spCount := ok_count D2 T
  have G_kept : FnOk P w K mg base CX0 1 f3 fd3 ["value"] (spKept K) := ok_kept D3 T
  have G_len : FnOk P w K mg base CX0 1 f5 fd5 ["self"] (spLen K CS) := ok_len LM.F XS T
  refine fnG_of D.F sc_law_holds (fun vs H Q E h => ?_) (fun cdv A outer s H vs Q E hgd hr h => ?_)
  · obtain ⟨_, _, _, _, _, rfl, _⟩ := h
    rfl
  · obtain ⟨dr, sa, ja, wa, c, rfl, hdr, ok, ho, k⟩ := h
    have hu := hu_of hr
    refine ⟨_, (pss_cons (ps_asg (pe_tup (pa_cons (pe_callTy (call_tupK (K := K) rfl) (by rfl) T.n_tuple PyProof.Rows.boot_tuple (pa_cons (pe_dget hu (pv 0) pe_str (fun _ _ => rfl)) pa_nil)) (pa_cons (pe_callTy (call_tupK (K := K) rfl) (by rfl) T.n_tuple PyProof.Rows.boot_tuple (pa_cons (pe_dget hu (pv 0) pe_str (fun _ _ => rfl)) pa_nil)) pa_nil))) (pg_tup (by rfl) (pgs_cons (pg_name (i := 4) sc_law_holds.nd rfl (Or.inr rfl)) (pgs_cons (pg_name (i := 5) sc_law_holds.nd rfl (Or.inr rfl)) pgs_nil))))
    (pss_cons (ps_set (i := 6) sc_law_holds.nd rfl (Or.inr rfl) (pe_callTy (call_tupK (K := K) rfl) (by rfl) T.n_tuple PyProof.Rows.boot_tuple (pa_cons (pe_lc (own := [("value", 13)]) (g := gName 13) (tt := tYes) rfl sc_law_holds.nd (pi_list (pe_dget hu (pv 0) pe_str (fun _ _ => rfl))) (blkOk_by (N := nHolds) (sc := defScope s_law_holds) (by decide +kernel)) (fun _ _ _ _ _ => (pg_name (i := 13) sc_law_holds.nd rfl (Or.inl rfl))) (fun _ _ _ _ _ => pts_nil) (fun _ _ _ _ _ => (pe_call G_kept (hr.mono (by decide)) rfl D3.m D3.F.kp D3.b .nil pass0 (pa_cons (pv 13) pa_nil)))) pa_nil)))
    (pss_cons (ps_set (i := 7) sc_law_holds.nd rfl (Or.inl rfl) (pe_lst (pa_cons (pe_tup (pa_cons (pe_fld (pv 1) rfl) (pa_cons (pe_dget hu (pv 0) pe_str (fun _ _ => rfl)) pa_nil))) (pa_cons (pe_tup (pa_cons (pe_fld (pv 1) rfl) (pa_cons (pv 4) pa_nil))) (pa_cons (pe_tup (pa_cons (pe_fld (pv 1) rfl) (pa_cons (pv 5) pa_nil))) (pa_cons (pe_tup (pa_cons (pe_fld (pv 1) rfl) (pa_cons (pv 6) pa_nil))) (pa_cons (pe_tup (pa_cons (pe_fld (pv 1) rfl) (pa_cons (pe_dget hu (pv 0) pe_str (fun _ _ => rfl)) pa_nil))) (pa_cons (pe_tup (pa_cons (pe_fld (pv 2) rfl) (pa_cons (pe_dget hu (pv 0) pe_str (fun _ _ => rfl)) pa_nil))) (pa_cons (pe_tup (pa_cons (pe_fld (pv 2) rfl) (pa_cons (pe_dget hu (pv 0) pe_str (fun _ _ => rfl)) pa_nil))) (pa_cons (pe_tup (pa_cons (pe_fld (pv 2) rfl) (pa_cons (pe_dget hu (pv 0) pe_str (fun _ _ => rfl)) pa_nil))) (pa_cons (pe_tup (pa_cons (pe_fld (pv 2) rfl) (pa_cons (pe_dget hu (pv 0) pe_str (fun _ _ => rfl)) pa_nil))) (pa_cons (pe_tup (pa_cons (pe_fld (pv 2) rfl) (pa_cons (pv 4) pa_nil))) (pa_cons (pe_tup (pa_cons (pe_fld (pv 3) rfl) (pa_cons (pe_dget hu (pv 0) pe_str (fun _ _ => rfl)) pa_nil))) (pa_cons (pe_tup (pa_cons (pe_fld (pv 3) rfl) (pa_cons (pv 5) pa_nil))) (pa_cons (pe_tup (pa_cons (pe_fld (pv 3) rfl) (pa_cons (pe_dget hu (pv 0) pe_str (fun _ _ => rfl)) pa_nil))) (pa_cons (pe_tup (pa_cons (pe_fld (pv 3) rfl) (pa_cons (pe_dget hu (pv 0) pe_str (fun _ _ => rfl)) pa_nil))) pa_nil))))))))))))))))
    (pss_cons (ps_for PassesOwn.never rfl (pi_list (pv 7)) (pg_tup (by rfl) (pgs_cons (pg_name (i := 8) sc_law_holds.nd rfl (Or.inl rfl)) (pgs_cons (pg_name (i := 9) sc_law_holds.nd rfl (Or.inr rfl)) pgs_nil)))
      (pss_one (ps_if (pt_not (pt_val (pe_callG G_alike hgd (hr.mono (by decide)) rfl D1.m D1.F.kp D1.b (pa_cons (pv 8) (pa_cons (pv 9) pa_nil)))))
        (pss_one (ps_ret pe_bl))
        pss_nil)))
    (pss_cons (ps_if (PW.pt (pw_or (pt_not (pt_val (pe_call G_count (hr.mono (by decide)) rfl D2.m D2.F.kp D2.b .nil pass0 (pa_cons (pe_callB (call_lenO LM.hi LM.hf G_len LM.b hr) (by rfl) T.n_len PySem.boot_len (pa_cons (pv 1) pa_nil)) pa_nil)))) (pw_or1 (pt_cmpR op_ne (pe_callB (call_lenO LM.hi LM.hf G_len LM.b hr) (by rfl) T.n_len PySem.boot_len (pa_cons (pv 1) pa_nil)) (pe_callB call_len_seq (by rfl) T.n_len PySem.boot_len (pa_cons (pv 4) pa_nil)) (nomark _)))))
      (pss_one (ps_ret pe_bl))
      pss_nil)
    (pss_cons (ps_set (i := 9) sc_law_holds.nd rfl (Or.inr rfl) (pe_lc (own := [("k", 14)]) (g := gName 14) (tt := tYes) rfl sc_law_holds.nd (pi_range1 (by rfl) T.n_range (pa_cons (pe_callB call_len_seq (by rfl) T.n_len PySem.boot_len (pa_cons (pv 4) pa_nil)) pa_nil)) (blkOk_by (N := nHolds) (sc := defScope s_law_holds) (by decide +kernel)) (fun _ _ _ _ _ => (pg_name (i := 14) sc_law_holds.nd rfl (Or.inl rfl))) (fun _ _ _ _ _ => pts_nil) (fun _ _ _ _ _ => (pe_tup (pa_cons (pe_ix (ix_tupK (K := K) rfl) (pv 4) (pv 14) (fun _ _ => rfl)) (pa_cons (pe_ix (ix_tupK (K := K) rfl) (pv 5) (pv 14) (fun _ _ => rfl)) (pa_cons (pe_ix (ix_tupK (K := K) rfl) (pv 6) (pv 14) (fun _ _ => rfl)) pa_nil)))))))
    (pss_cons (ps_for PassesOwn.never rfl (pi_range1 (by rfl) T.n_range (pa_cons pe_int pa_nil)) (pg_name (i := 10) sc_law_holds.nd rfl (Or.inl rfl))
      (pss_one (ps_if (pt_not (pt_val (pe_callG G_alike hgd (hr.mono (by decide)) rfl D1.m D1.F.kp D1.b (pa_cons (pe_lc (own := [("entry", 15)]) (g := gName 15) (tt := tYes) rfl sc_law_holds.nd (pi_sq (pv 1) IM XS T.n_iter (hr.mono (by decide))) (blkOk_by (N := nHolds) (sc := defScope s_law_holds) (by decide +kernel)) (fun _ _ _ _ _ => (pg_name (i := 15) sc_law_holds.nd rfl (Or.inl rfl))) (fun _ _ _ _ _ => pts_nil) (fun _ _ _ _ _ => (pv 15))) (pa_cons (pv 9) pa_nil)))))
        (pss_one (ps_ret pe_bl))
        pss_nil)))
    (pss_cons (ps_set (i := 11) sc_law_holds.nd rfl (Or.inl rfl) (pe_lst pa_nil))
    (pss_cons (ps_for PassesOwn.never rfl (pi_sq (pv 1) IM XS T.n_iter (hr.mono (by decide))) (pg_name (i := 12) sc_law_holds.nd rfl (Or.inl rfl))
      (pss_one (ps_expr (pe_bm PySem.F.plainAttrs_list PySem.F.slot_list_append PySem.F.type_list_append mt_append (pv 11) (pa_cons (pe_tup (pa_cons (pv 12) (pa_cons (pe_lc (own := [("inner", 16)]) (g := gName 16) (tt := tYes) rfl sc_law_holds.nd (pi_sq (pv 1) IM XS T.n_iter (hr.mono (by decide))) (blkOk_by (N := nHolds) (sc := defScope s_law_holds) (by decide +kernel)) (fun _ _ _ _ _ => (pg_name (i := 16) sc_law_holds.nd rfl (Or.inl rfl))) (fun _ _ _ _ _ => pts_nil) (fun _ _ _ _ _ => (pv 16))) pa_nil))) pa_nil)))))
    (pss_one (ps_ret (pe_callG G_alike hgd (hr.mono (by decide)) rfl D1.m D1.F.kp D1.b (pa_cons (pv 11) (pa_cons (pe_lc (own := [("entry", 15)]) (g := gName 15) (tt := tYes) rfl sc_law_holds.nd (pi_list (pv 9)) (blkOk_by (N := nHolds) (sc := defScope s_law_holds) (by decide +kernel)) (fun _ _ _ _ _ => (pg_name (i := 15) sc_law_holds.nd rfl (Or.inl rfl))) (fun _ _ _ _ _ => pts_nil) (fun _ _ _ _ _ => (pe_tup (pa_cons (pv 15) (pa_cons (pv 9) pa_nil))))) pa_nil)))))))))))))), ?_⟩
    obtain ⟨kvs, hd, _, ⟨ew, kw, dw⟩, _, ⟨e1, k1, q1⟩, ⟨e2, k2, q2⟩, ⟨e3, k3, q3⟩, ⟨e4, k4, q4⟩, ⟨e5, k5, q5⟩, ⟨e6, k6, q6⟩⟩ := hdr.ex
    obtain ⟨⟨dxs, fs, hs, sf⟩, ⟨dxj, fj, hj, vf⟩, ⟨dxw, fw, hw, wf⟩⟩ := ho
    have sm := ok.sm
    have l1 := ok.l1
    have l2 := ok.l2
    have l3 := ok.l3
    cases q1 with
    | @lst a1 xs1 _ q1 al1 =>
    cases q2 with
    | @lst a2 xs2 _ q2 al2 =>
    cases q3 with
    | @lst a3 xs3 _ q3 al3 =>
    -- one, two
    refine ⟨_, rfl, dr, _, rfl, dget_of hd k1, a1, xs1, rfl, .inl ⟨q1, fun p1 hp1 => ?_⟩⟩
    have s1 := same_upd (o := .tup xs1) hp1
    refine ⟨_, rfl, dr, _, rfl, dget_of (s1 _ _ hd) k2, a2, xs2, rfl, .inl ⟨seqL_at s1 q2, fun p2 hp2 => ?_⟩⟩
    have s2 := same_upd (o := .tup xs2) hp2
    refine ⟨by show 2 ≤ sizeLine; rw [sizeLine_eq]; decide, fun pt hpt => ?_⟩
    have s3 := same_upd (o := .tup [.ref p1, .ref p2]) hpt
    refine ⟨pt, _, rfl, .of upd_same, rfl, _, _, rfl, _, _, rfl, rfl, ?_⟩
    have d1 : Dp K _ (.ref p1) (.tuple c.one) := dp_at (s2.trans s3) (.tup (.of upd_same) (dpa_at s1 al1))
    have d2 : Dp K _ (.ref p2) (.tuple c.two) := dp_at s3 (.tup (.of upd_same) (dpa_at (s1.trans s2) al2))
    have s4 : Same H _ := (s1.trans s2).trans s3
    revert d1 d2 s4
    generalize upd (upd (upd H p1 (.tup xs1)) p2 (.tup xs2)) pt (.tup [.ref p1, .ref p2]) = H1
    intro d1 d2 s4
    clear s1 s2 s3 hp1 hp2 hpt
    -- lines
    refine ⟨_, rfl, dr, _, rfl, dget_of (s4 _ _ hd) k3, a3, rfl, ⟨_, seqL_at s4 q3⟩, fun L hL => ?_⟩
    refine lc_list (K := K) (a := a3) (xs := xs3) (fun i H2 => ∃ (G2 : Hp) (acc : List V), H2 L = some (.lst acc) ∧ G2 L = none ∧ acc.length = i ∧ Gr Z0 H1 H1 G2 H2 ∧ DpAll K G2 acc ((c.lines.take i).map keptD)) ?_ ?_ ?_ ?_
    · exact ⟨H1, [], upd_same, hL, rfl, (Gr.refl (Same.refl _)).mk0 hL, .nil⟩
    · rintro i H2 _ ⟨_, _, _, _, _, g, _⟩
      exact seqL_at (s4.trans g.same) q3
    · rintro i x H2 hx ⟨G2, acc, h1, h2, h3, g, hA⟩
      obtain ⟨d, ed, hdx⟩ := dpa_get al3 hx
      have hi := dp_len al3 hx
      refine ⟨rfl, _, rfl, x, d, G2, rfl, g.sub, dp_at (s4.trans g.sG) hdx, fun u G3 H3 g3 hu => ?_⟩
      have h13 := g3.same _ _ h1
      have h23 := g3.non L (by rw [h1]; simp) h2
      refine ⟨acc, h13, by rw [h3, sizeLine_eq]; omega, G3, acc ++ [u], upd_same, h23, by simp [h3], (g.trans g3).chg hL h23, ?_⟩
      rw [take_snoc ed, List.map_append]
      exact dpa_snoc (dpa_at g3.sG hA) hu
    rintro H2 ⟨G2, acc, hL2, hG2, _, g, hA⟩
    rw [dpa_len al3, List.take_length] at hA
    refine ⟨L, acc, rfl, .inl ⟨.of hL2, fun p3 hp3 => ?_⟩⟩
    have g3 := g.mk1 (o := .tup acc) hp3
    have s5 : Same H _ := s4.trans g3.same
    have d1 := dp_at g3.same d1
    have d2 := dp_at g3.same d2
    have d3 : Dp K _ (.ref p3) (.tuple (c.lines.map keptD)) := dp_at g3.sub (.tup (.of upd_same) (dpa_at (same_upd (g.gnone hp3)) hA))
    revert s5 d1 d2 d3
    clear g3
    generalize upd H2 p3 (.tup acc) = H3
    intro s5 d1 d2 d3
    clear hp3 hL2 hG2 g hA hL s4
    -- pairs
    have t0 : Same H3 H3 := Same.refl _
    refine lst_in ?_
    obtain ⟨v1, g1, r1⟩ := sf.w
    refine pair_step v1 ew (.str c.word) (fld_rd rfl ((s5.trans t0) _ _ hs) XS.cl XS.w g1) (dg_rd rfl ((s5.trans t0) _ _ hd) kw) (dp_at (s5.trans t0) r1) (dp_at (s5.trans t0) dw) (ok.w.mono (by decide) (by decide)) (fun z1 J1 u1 o1 => ?_)
    have t1 := t0.trans u1
    obtain ⟨v2, g2, r2⟩ := sf.s
    refine pair_step v2 (.ref p1) (.tuple c.one) (fld_rd rfl ((s5.trans t1) _ _ hs) XS.cl XS.s g2) (vr_rd rfl) (dp_at (s5.trans t1) r2) (dp_at t1 d1) sm.o (fun z2 J2 u2 o2 => ?_)
    have t2 := t1.trans u2
    obtain ⟨v3, g3, r3⟩ := sf.d
    refine pair_step v3 (.ref p2) (.tuple c.two) (fld_rd rfl ((s5.trans t2) _ _ hs) XS.cl XS.d g3) (vr_rd rfl) (dp_at (s5.trans t2) r3) (dp_at t2 d2) sm.t (fun z3 J3 u3 o3 => ?_)
    have t3 := t2.trans u3
    obtain ⟨v4, g4, r4⟩ := sf.r
    refine pair_step v4 (.ref p3) (.tuple (c.lines.map keptD)) (fld_rd rfl ((s5.trans t3) _ _ hs) XS.cl XS.r g4) (vr_rd rfl) (dp_at (s5.trans t3) r4) (dp_at t3 d3) sm.l (fun z4 J4 u4 o4 => ?_)
    have t4 := t3.trans u4
    obtain ⟨v5, g5, r5⟩ := sf.h
    refine pair_step v5 e4 c.fst (fld_rd rfl ((s5.trans t4) _ _ hs) XS.cl XS.h g5) (dg_rd rfl ((s5.trans t4) _ _ hd) k4) (dp_at (s5.trans t4) r5) (dp_at (s5.trans t4) q4) (ok.f1.1.mono (by decide) (by decide)) (fun z5 J5 u5 o5 => ?_)
    have t5 := t4.trans u5
    obtain ⟨v6, g6, r6⟩ := vf.w
    refine pair_step v6 ew (.str c.word) (fld_rd rfl ((s5.trans t5) _ _ hj) XV.cl XV.w g6) (dg_rd rfl ((s5.trans t5) _ _ hd) kw) (dp_at (s5.trans t5) r6) (dp_at (s5.trans t5) dw) (ok.w.mono (by decide) (by decide)) (fun z6 J6 u6 o6 => ?_)
    have t6 := t5.trans u6
    obtain ⟨v7, g7, r7⟩ := vf.r
    refine pair_step v7 e4 c.fst (fld_rd rfl ((s5.trans t6) _ _ hj) XV.cl XV.r g7) (dg_rd rfl ((s5.trans t6) _ _ hd) k4) (dp_at (s5.trans t6) r7) (dp_at (s5.trans t6) q4) (ok.f1.1.mono (by decide) (by decide)) (fun z7 J7 u7 o7 => ?_)
    have t7 := t6.trans u7
    obtain ⟨v8, g8, r8⟩ := vf.n
    refine pair_step v8 e5 c.snd (fld_rd rfl ((s5.trans t7) _ _ hj) XV.cl XV.n g8) (dg_rd rfl ((s5.trans t7) _ _ hd) k5) (dp_at (s5.trans t7) r8) (dp_at (s5.trans t7) q5) (ok.f2.1.mono (by decide) (by decide)) (fun z8 J8 u8 o8 => ?_)
    have t8 := t7.trans u8
    obtain ⟨v9, g9, r9⟩ := vf.t
    refine pair_step v9 e6 c.thd (fld_rd rfl ((s5.trans t8) _ _ hj) XV.cl XV.t g9) (dg_rd rfl ((s5.trans t8) _ _ hd) k6) (dp_at (s5.trans t8) r9) (dp_at (s5.trans t8) q6) (ok.f3.1.mono (by decide) (by decide)) (fun z9 J9 u9 o9 => ?_)
    have t9 := t8.trans u9
    obtain ⟨v10, g10, r10⟩ := vf.s
    refine pair_step v10 (.ref p1) (.tuple c.one) (fld_rd rfl ((s5.trans t9) _ _ hj) XV.cl XV.s g10) (vr_rd rfl) (dp_at (s5.trans t9) r10) (dp_at t9 d1) sm.o (fun z10 J10 u10 o10 => ?_)
    have t10 := t9.trans u10
    obtain ⟨v11, g11, r11⟩ := wf.w
    refine pair_step v11 ew (.str c.word) (fld_rd rfl ((s5.trans t10) _ _ hw) XW.cl XW.w g11) (dg_rd rfl ((s5.trans t10) _ _ hd) kw) (dp_at (s5.trans t10) r11) (dp_at (s5.trans t10) dw) (ok.w.mono (by decide) (by decide)) (fun z11 J11 u11 o11 => ?_)
    have t11 := t10.trans u11
    obtain ⟨v12, g12, r12⟩ := wf.r
    refine pair_step v12 (.ref p2) (.tuple c.two) (fld_rd rfl ((s5.trans t11) _ _ hw) XW.cl XW.r g12) (vr_rd rfl) (dp_at (s5.trans t11) r12) (dp_at t11 d2) sm.t (fun z12 J12 u12 o12 => ?_)
    have t12 := t11.trans u12
    obtain ⟨v13, g13, r13⟩ := wf.q
    refine pair_step v13 e5 c.snd (fld_rd rfl ((s5.trans t12) _ _ hw) XW.cl XW.q g13) (dg_rd rfl ((s5.trans t12) _ _ hd) k5) (dp_at (s5.trans t12) r13) (dp_at (s5.trans t12) q5) (ok.f2.1.mono (by decide) (by decide)) (fun z13 J13 u13 o13 => ?_)
    have t13 := t12.trans u13
    obtain ⟨v14, g14, r14⟩ := wf.v
    refine pair_step v14 e6 c.thd (fld_rd rfl ((s5.trans t13) _ _ hw) XW.cl XW.v g14) (dg_rd rfl ((s5.trans t13) _ _ hd) k6) (dp_at (s5.trans t13) r14) (dp_at (s5.trans t13) q6) (ok.f3.1.mono (by decide) (by decide)) (fun z14 J14 u14 o14 => ?_)
    have t14 := t13.trans u14
    refine ⟨by show 14 ≤ sizeLine; rw [sizeLine_eq]; decide, fun Pl hPl => ?_⟩
    have hall : ∀ x ∈ [V.ref z1, V.ref z2, V.ref z3, V.ref z4, V.ref z5, V.ref z6, V.ref z7, V.ref z8, V.ref z9, V.ref z10, V.ref z11, V.ref z12, V.ref z13, V.ref z14], ∃ p, x = .ref p ∧ PairOk K J14 p := by
      intro x hx
      simp only [List.mem_cons, List.not_mem_nil, or_false] at hx
      rcases hx with rfl | rfl | rfl | rfl | rfl | rfl | rfl | rfl | rfl | rfl | rfl | rfl | rfl | rfl
      · exact ⟨_, rfl, o1.at_ ((((((((((((u2.trans u3).trans u4).trans u5).trans u6).trans u7).trans u8).trans u9).trans u10).trans u11).trans u12).trans u13).trans u14)⟩
      · exact ⟨_, rfl, o2.at_ (((((((((((u3.trans u4).trans u5).trans u6).trans u7).trans u8).trans u9).trans u10).trans u11).trans u12).trans u13).trans u14)⟩
      · exact ⟨_, rfl, o3.at_ ((((((((((u4.trans u5).trans u6).trans u7).trans u8).trans u9).trans u10).trans u11).trans u12).trans u13).trans u14)⟩
      · exact ⟨_, rfl, o4.at_ (((((((((u5.trans u6).trans u7).trans u8).trans u9).trans u10).trans u11).trans u12).trans u13).trans u14)⟩
      · exact ⟨_, rfl, o5.at_ ((((((((u6.trans u7).trans u8).trans u9).trans u10).trans u11).trans u12).trans u13).trans u14)⟩
      · exact ⟨_, rfl, o6.at_ (((((((u7.trans u8).trans u9).trans u10).trans u11).trans u12).trans u13).trans u14)⟩
      · exact ⟨_, rfl, o7.at_ ((((((u8.trans u9).trans u10).trans u11).trans u12).trans u13).trans u14)⟩
      · exact ⟨_, rfl, o8.at_ (((((u9.trans u10).trans u11).trans u12).trans u13).trans u14)⟩
      · exact ⟨_, rfl, o9.at_ ((((u10.trans u11).trans u12).trans u13).trans u14)⟩
      · exact ⟨_, rfl, o10.at_ (((u11.trans u12).trans u13).trans u14)⟩
      · exact ⟨_, rfl, o11.at_ ((u12.trans u13).trans u14)⟩
      · exact ⟨_, rfl, o12.at_ (u13.trans u14)⟩
      · exact ⟨_, rfl, o13.at_ u14⟩
      · exact ⟨_, rfl, o14.at_ (Same.refl J14)⟩
    have hPs : (upd J14 Pl (.lst [V.ref z1, V.ref z2, V.ref z3, V.ref z4, V.ref z5, V.ref z6, V.ref z7, V.ref z8, V.ref z9, V.ref z10, V.ref z11, V.ref z12, V.ref z13, V.ref z14])) Pl = some (.lst [V.ref z1, V.ref z2, V.ref z3, V.ref z4, V.ref z5, V.ref z6, V.ref z7, V.ref z8, V.ref z9, V.ref z10, V.ref z11, V.ref z12, V.ref z13, V.ref z14]) := upd_same
    have t15 := t14.trans (same_upd (o := .lst [V.ref z1, V.ref z2, V.ref z3, V.ref z4, V.ref z5, V.ref z6, V.ref z7, V.ref z8, V.ref z9, V.ref z10, V.ref z11, V.ref z12, V.ref z13, V.ref z14]) hPl)
    have hall2 : ∀ x ∈ [V.ref z1, V.ref z2, V.ref z3, V.ref z4, V.ref z5, V.ref z6, V.ref z7, V.ref z8, V.ref z9, V.ref z10, V.ref z11, V.ref z12, V.ref z13, V.ref z14], ∃ p, x = .ref p ∧ PairOk K (upd J14 Pl (.lst [V.ref z1, V.ref z2, V.ref z3, V.ref z4, V.ref z5, V.ref z6, V.ref z7, V.ref z8, V.ref z9, V.ref z10, V.ref z11, V.ref z12, V.ref z13, V.ref z14])) p := fun x hx => by
      obtain ⟨p, h1, h2⟩ := hall x hx
      exact ⟨p, h1, h2.at_ (same_upd hPl)⟩
    clear hall hPl
    revert hPs t15 hall2
    generalize upd J14 Pl (.lst [V.ref z1, V.ref z2, V.ref z3, V.ref z4, V.ref z5, V.ref z6, V.ref z7, V.ref z8, V.ref z9, V.ref z10, V.ref z11, V.ref z12, V.ref z13, V.ref z14]) = H4
    generalize [V.ref z1, V.ref z2, V.ref z3, V.ref z4, V.ref z5, V.ref z6, V.ref z7, V.ref z8, V.ref z9, V.ref z10, V.ref z11, V.ref z12, V.ref z13, V.ref z14] = zl
    intro hPs t15 hall2
    clear o1 u1 o2 u2 o3 u3 o4 u4 o5 u5 o6 u6 o7 u7 o8 u8 o9 u9 o10 u10 o11 u11 o12 u12 o13 u13 o14 u14 t14 t13 t12 t11 t10 t9 t8 t7 t6 t5 t4 t3 t2 t1 t0
    have s6 : Same H H4 := s5.trans t15
    have d1 := dp_at t15 d1
    have d2 := dp_at t15 d2
    have d3 := dp_at t15 d3
    clear t15 s5
    -- for actual, due in pairs
    refine ⟨_, rfl, Pl, rfl, ⟨_, .of hPs⟩, for_list (K := K) (a := Pl) (xs := zl) (fun i σ H5 => ∃ x8 x9, σ = [some (.ref dr), some (.ref sa), some (.ref ja), some (.ref wa), some (.ref p1), some (.ref p2), some (.ref p3), some (.ref Pl), x8, x9, none, none, none, none, none, none, none] ∧ Same H4 H5) ?_ ?_ ?_ ?_⟩
    · exact ⟨none, none, rfl, Same.refl _⟩
    · rintro i σ H5 _ ⟨_, _, _, s⟩
      exact .of (s _ _ hPs)
    · rintro i x σ H5 hx ⟨x8, x9, rfl, s⟩
      obtain ⟨p, rfl, a, b, d, h1, h2, h3, h4⟩ := hall2 x (List.mem_of_getElem? hx)
      refine ⟨p, _, rfl, .of (s _ _ h1), rfl, _, _, rfl, _, _, rfl, rfl, _, rfl, _, rfl, a, b, d, rfl, dp_at s h2, dp_at s h3, h4, _, rfl, ?_⟩
      exact iteF ⟨_, _, rfl, s⟩
    rintro σ H5 ⟨x8, x9, rfl, s7⟩
    have s8 := s6.trans s7
    have d1 := dp_at s7 d1
    have d2 := dp_at s7 d2
    have d3 := dp_at s7 d3
    clear hPs hall2 s6 s7
    -- len(shaped)
    cases d1 with
    | @tup _ us1 _ qa1 ala1 =>
    cases d2 with
    | @tup _ us2 _ qa2 ala2 =>
    cases d3 with
    | @tup _ us3 _ qa3 ala3 =>
    have m1 := dpa_len ala1
    have m2 := dpa_len ala2
    have m3 := dpa_len ala3
    rw [List.length_map] at m3
    have hs5 := s8 _ _ hs
    have sf5 := sf.at_ s8
    have le1 : c.one.length ≤ sizeLine := by rw [sizeLine_eq]; omega
    refine ⟨_, rfl, sa, dxs, fs, rfl, hs5, sa, dxs, fs, c.one, rfl, hs5, sf5.s, c.one.length, rfl, le1, _, rfl, _, rfl, ?_⟩
    refine iteF ⟨_, rfl, sa, dxs, fs, rfl, hs5, sa, dxs, fs, c.one, rfl, hs5, sf5.s, c.one.length, rfl, le1, _, rfl, p1, us1, rfl, .inr qa1, rfl, _, rfl, ?_⟩
    refine ite_no (by rw [m1]; simp) ?_
    -- due
    refine ⟨_, rfl, p1, us1, rfl, .inr qa1, _, rfl, by omega, by omega, fun Dd hDd => ?_⟩
    rw [Int.toNat_natCast]
    refine lc_range (fun i H6 => ∃ (G6 : Hp) (acc : List V), H6 Dd = some (.lst acc) ∧ G6 Dd = none ∧ acc.length = i ∧ Gr Z0 H5 H5 G6 H6 ∧ DpAll K G6 acc ((zipD c.one c.two (c.lines.map keptD)).take i)) ?_ ?_ ?_
    · exact ⟨H5, [], upd_same, hDd, rfl, (Gr.refl (Same.refl _)).mk0 hDd, .nil⟩
    · rintro i H6 hi ⟨G6, acc, h1, h2, h3, g, hA⟩
      have g1 := List.getElem?_eq_getElem hi
      have g2 := List.getElem?_eq_getElem (show i < us2.length by omega)
      have g3 := List.getElem?_eq_getElem (show i < us3.length by omega)
      obtain ⟨da, ea, ra⟩ := dpa_get ala1 g1
      obtain ⟨db, eb, rb⟩ := dpa_get ala2 g2
      obtain ⟨dc, ec, rc⟩ := dpa_get ala3 g3
      have at0 : ∀ {xs : List V} {v : V}, xs[i]? = some v → atI xs (0 + (i : Int)) = some v := fun {xs v} h => by
        rw [Int.zero_add]; exact atI_nat h
      refine ⟨rfl, _, rfl, _, rfl, p1, us1, _, _, rfl, rfl, seqT_at g.same qa1, at0 g1, _, rfl, _, rfl, p2, us2, _, _, rfl, rfl, seqT_at g.same qa2, at0 g2, _, rfl, _, rfl, p3, us3, _, _, rfl, rfl, seqT_at g.same qa3, at0 g3, by show 3 ≤ sizeLine; rw [sizeLine_eq]; decide, fun t ht => ?_⟩
      have gt := g.mk1 (o := .tup [us1[i], us2[i]'(by omega), us3[i]'(by omega)]) ht
      have nD : Dd ≠ t := ne_of_none h1 ht
      refine ⟨acc, by rw [upd_ne nD]; exact h1, by rw [h3, sizeLine_eq]; omega, _, acc ++ [.ref t], upd_same, by rw [upd_ne nD]; exact h2, by simp [h3], gt.chg hDd (by rw [upd_ne nD]; exact h2), ?_⟩
      rw [take_snoc (zipD_get ea eb ec)]
      have st := same_upd (o := .tup [us1[i], us2[i]'(by omega), us3[i]'(by omega)]) (g.gnone ht)
      have sg := g.sG.trans st
      exact dpa_snoc (dpa_at st hA) (.tup (.of upd_same) (.cons (dp_at sg ra) (.cons (dp_at sg rb) (.cons (dp_at sg rc) .nil))))
    rintro H6 ⟨G6, acc, hD6, gD6, _, g, hA⟩
    rw [List.take_of_length_le (by rw [zipD_len]; omega)] at hA
    have s9 := s8.trans g.same
    have hdue : Dp K H6 (.ref Dd) (.list (zipD c.one c.two (c.lines.map keptD))) := .lst (.of hD6) (dpa_at g.sub hA)
    have hs6 := s9 _ _ hs
    have sf6 := sf.at_ s9
    clear gD6 g hA hD6 G6 hDd
    obtain ⟨vt, kt, qt⟩ := sf6.t
    cases qt with
    | @lst tl txs _ qtl tal =>
    have ltx : txs.length = c.one.length := by rw [dpa_len tal, zipD_len]
    -- for again in range(2)
    refine ⟨_, rfl, by decide, by decide, for_range (n := 2) (lo := 0) (fun i σ H7 => ∃ x10, σ = [some (.ref dr), some (.ref sa), some (.ref ja), some (.ref wa), some (.ref p1), some (.ref p2), some (.ref p3), some (.ref Pl), x8, some (.ref Dd), x10, none, none, none, none, none, none] ∧ Same H6 H7) ?_ ?_ ?_⟩
    · exact ⟨none, rfl, Same.refl _⟩
    · rintro i σ H7 _ ⟨x10, rfl, s⟩
      refine ⟨_, rfl, sa, dxs, tl, fs, txs, rfl, s _ _ hs6, kt, seqL_at s qtl, fun L hL => ?_⟩
      refine lc_list (K := K) (a := tl) (xs := txs) (fun j H8 => H8 L = some (.lst (txs.take j)) ∧ Same H7 H8) ⟨upd_same, same_upd hL⟩ (fun j H8 _ h => seqL_at (s.trans h.2) qtl) ?_ ?_
      · rintro j x H8 hx ⟨h1, h2⟩
        have hj := (List.getElem?_eq_some_iff.mp hx).1
        refine ⟨rfl, _, rfl, _, h1, by rw [List.length_take, sizeLine_eq]; omega, by rw [upd_same, take_snoc hx], fun b o e => ?_⟩
        rw [upd_ne (ne_of_none e hL)]
        exact h2 b o e
      · rintro H8 ⟨h1, h2⟩
        rw [List.take_length] at h1
        have s8' := s.trans h2
        refine ⟨_, rfl, _, _, _, rfl, .lst (.of h1) (dpa_at s8' tal), dp_at s8' hdue, sm.z, _, rfl, ?_⟩
        exact iteF ⟨_, rfl, s8'⟩
    rintro σ H7 ⟨x10, rfl, s10⟩
    have hs7 := s10 _ _ hs6
    have qtl7 := seqL_at (K := K) s10 qtl
    have tal7 := dpa_at s10 tal
    have hdue7 := dp_at s10 hdue
    have s11 := s9.trans s10
    clear hs6 qtl tal hdue s10 sf6 sf5 hs5 s9
    -- walked
    refine ⟨by show 0 ≤ sizeLine; rw [sizeLine_eq]; decide, fun Wk hWk => ?_⟩
    refine ⟨_, rfl, sa, dxs, tl, fs, txs, rfl, same_upd hWk _ _ hs7, kt, seqL_at (same_upd hWk) qtl7, for_list (K := K) (a := tl) (xs := txs) (fun i σ H8 => ∃ (G8 : Hp) (acc : List V) (x12 : Option V), σ = [some (.ref dr), some (.ref sa), some (.ref ja), some (.ref wa), some (.ref p1), some (.ref p2), some (.ref p3), some (.ref Pl), x8, some (.ref Dd), x10, some (.ref Wk), x12, none, none, none, none] ∧
      H8 Wk = some (.lst acc) ∧ G8 Wk = none ∧ acc.length = i ∧ Gr Z0 H7 H7 G8 H8 ∧ DpAll K G8 acc (((zipD c.one c.two (c.lines.map keptD)).map fun x => .tuple [x, .list (zipD c.one c.two (c.lines.map keptD))]).take i)) ?_ ?_ ?_ ?_⟩
    · exact ⟨H7, [], none, rfl, upd_same, hWk, rfl, (Gr.refl (Same.refl _)).mk0 hWk, .nil⟩
    · rintro i σ H8 _ ⟨_, _, _, _, _, _, _, g, _⟩
      exact seqL_at g.same qtl7
    · rintro i x σ H8 hx ⟨G8, acc, x12, rfl, h1, h2, h3, g, hA⟩
      obtain ⟨dx, ex, rx⟩ := dpa_get tal7 hx
      have hi := (List.getElem?_eq_some_iff.mp hx).1
      refine ⟨_, rfl, .inl ⟨rfl, _, .of h1⟩, _, rfl, _, rfl, sa, dxs, tl, fs, txs, rfl, g.same _ _ hs7, kt, seqL_at g.same qtl7, fun L hL => ?_⟩
      refine lc_list (K := K) (a := tl) (xs := txs) (fun j H9 => H9 L = some (.lst (txs.take j)) ∧ Gr Z0 G8 H8 G8 H9) ⟨upd_same, (Gr.refl g.sub).mk0 hL⟩ (fun j H9 _ h => seqL_at (g.same.trans h.2.same) qtl7) ?_ ?_
      · rintro j y H9 hy ⟨k1, k2⟩
        have hj := (List.getElem?_eq_some_iff.mp hy).1
        exact ⟨rfl, _, rfl, _, k1, by rw [List.length_take, sizeLine_eq]; omega, by rw [upd_same, take_snoc hy], k2.chg hL (g.sub.free hL)⟩
      · rintro H9 ⟨k1, k2⟩
        rw [List.take_length] at k1
        have gL := k2.safe hL k1 (g.sub.free hL)
        have gg := g.trans gL
        have nWL : Wk ≠ L := ne_of_none h1 hL
        have h1' := k2.same _ _ h1
        refine ⟨by show 2 ≤ sizeLine; rw [sizeLine_eq]; decide, fun t ht => ?_⟩
        have gt := gg.mk1 (o := .tup [x, .ref L]) ht
        have nWt : Wk ≠ t := ne_of_none h1' ht
        have gW : (upd (upd G8 L (.lst txs)) t (.tup [x, .ref L])) Wk = none := by rw [upd_ne nWt, upd_ne nWL]; exact h2
        refine ⟨Wk, acc, _, rfl, rfl, by rw [upd_ne nWt]; exact h1', by rw [h3, sizeLine_eq]; omega, upd (upd G8 L (.lst txs)) t (.tup [x, .ref L]), acc ++ [.ref t], _, rfl, upd_same, gW, by simp [h3], gt.chg hWk gW, ?_⟩
        have eZ : ((zipD c.one c.two (c.lines.map keptD)).map fun x => PyData.tuple [x, .list (zipD c.one c.two (c.lines.map keptD))])[i]? = some (.tuple [dx, .list (zipD c.one c.two (c.lines.map keptD))]) := by
          rw [List.getElem?_map, ex]; rfl
        rw [take_snoc eZ]
        have sL := same_upd (o := .lst txs) (g.sub.free hL)
        have st := same_upd (o := .tup [x, .ref L]) (gg.gnone ht)
        have sLt := sL.trans st
        have sall := g.sG.trans sLt
        exact dpa_snoc (dpa_at sLt hA) (.tup (.of upd_same) (.cons (dp_at sall rx) (.cons (.lst (.of (st _ _ upd_same)) (dpa_at sall tal7)) .nil)))
    rintro σ H8 ⟨G8, acc, x12, rfl, hW, gW, _, g, hA⟩
    rw [List.take_of_length_le (by rw [List.length_map, zipD_len]; omega)] at hA
    have hwalk : Dp K H8 (.ref Wk) (.list ((zipD c.one c.two (c.lines.map keptD)).map fun x => .tuple [x, .list (zipD c.one c.two (c.lines.map keptD))])) := .lst (.of hW) (dpa_at g.sub hA)
    have s12 := s11.trans g.same
    have hdue8 := dp_at g.same hdue7
    clear hA gW g
    -- the last
    cases hdue8 with
    | @lst _ dxs2 _ qdd dal =>
    have ldd := dpa_len dal
    rw [zipD_len] at ldd
    refine ⟨_, rfl, _, rfl, Dd, rfl, ⟨_, qdd⟩, fun L hL => ?_⟩
    refine lc_list (K := K) (a := Dd) (xs := dxs2) (fun i H9 => ∃ (G9 : Hp) (acc : List V), H9 L = some (.lst acc) ∧ G9 L = none ∧ acc.length = i ∧ Gr Z0 H8 H8 G9 H9 ∧ DpAll K G9 acc (((zipD c.one c.two (c.lines.map keptD)).map fun x => .tuple [x, .list (zipD c.one c.two (c.lines.map keptD))]).take i)) ?_ ?_ ?_ ?_
    · exact ⟨H8, [], upd_same, hL, rfl, (Gr.refl (Same.refl _)).mk0 hL, .nil⟩
    · rintro i H9 _ ⟨_, _, _, _, _, g, _⟩
      exact seqL_at g.same qdd
    · rintro i x H9 hx ⟨G9, acc, h1, h2, h3, g, hA⟩
      obtain ⟨dx, ex, rx⟩ := dpa_get dal hx
      have hi := (List.getElem?_eq_some_iff.mp hx).1
      refine ⟨rfl, _, rfl, _, rfl, by show 2 ≤ sizeLine; rw [sizeLine_eq]; decide, fun t ht => ?_⟩
      have gt := g.mk1 (o := .tup [x, .ref Dd]) ht
      have nt : L ≠ t := ne_of_none h1 ht
      have gn : (upd G9 t (.tup [x, .ref Dd])) L = none := by rw [upd_ne nt]; exact h2
      refine ⟨acc, by rw [upd_ne nt]; exact h1, by rw [h3, sizeLine_eq]; omega, _, acc ++ [.ref t], upd_same, gn, by simp [h3], gt.chg hL gn, ?_⟩
      have eZ : ((zipD c.one c.two (c.lines.map keptD)).map fun x => PyData.tuple [x, .list (zipD c.one c.two (c.lines.map keptD))])[i]? = some (.tuple [dx, .list (zipD c.one c.two (c.lines.map keptD))]) := by
        rw [List.getElem?_map, ex]; rfl
      rw [take_snoc eZ]
      have st := same_upd (o := .tup [x, .ref Dd]) (g.gnone ht)
      have sall := g.sG.trans st
      exact dpa_snoc (dpa_at st hA) (.tup (.of upd_same) (.cons (dp_at sall rx) (.cons (dp_at sall (.lst qdd dal)) .nil)))
    rintro H9 ⟨G9, acc9, hL9, _, _, g, hA⟩
    rw [List.take_of_length_le (by rw [List.length_map, zipD_len]; omega)] at hA
    exact ⟨_, _, _, rfl, dp_at g.same hwalk, .lst (.of hL9) (dpa_at g.sub hA), sm.w, k _ (s12.trans g.same)⟩
end
end B7
namespace B7
open PySem PySem.Spec PyProof.Rows L2 ItX
/-- an empty tuple that the top has written -/
def EmpT (K : PySem.W.Frag) (t : Addr) : Prop := ∀ H : Hp, SqT K H t []
theorem EmpT.seqIn {K : PySem.W.Frag} {t : Addr} (h : EmpT K t) {G H : Hp} : SeqIn K G H (.ref t) [] := ⟨t, true, [], rfl, h H, fun _ => h G, .nil⟩
theorem EmpT.rowsIn {K : PySem.W.Frag} {t : Addr} (h : EmpT K t) {G H : Hp} : RowsIn K G H (.ref t) [] := ⟨t, true, [], rfl, h H, .nil⟩
structure BareS (K : PySem.W.Frag) (fd : FuncData) : Prop where
  b : ∃ ds t1 t2 t3, Binds K fd psS ds ∧ Vals [.ref t1, .ref t2, .ref t3, .non] ds ∧ EmpT K t1 ∧ EmpT K t2 ∧ EmpT K t3
  k : ∃ g t1 t2 t3, KBn K fd psS 2 ["shown"] g (fun vs zs => vs ++ ([.ref t1, .ref t2, .ref t3] ++ zs)) ∧ EmpT K t1 ∧ EmpT K t2 ∧ EmpT K t3
structure BareV (K : PySem.W.Frag) (fd : FuncData) : Prop where
  b : ∃ ds t, Binds K fd psV ds ∧ Vals [.non, .non, .non, .ref t] ds ∧ EmpT K t
structure BareW (K : PySem.W.Frag) (fd : FuncData) : Prop where
  b : ∃ ds t, Binds K fd psW ds ∧ Vals [.ref t, .non, .non] ds ∧ EmpT K t
theorem pair_step2 {K : PySem.W.Frag} {ta tb : TE} {tr : TA} {σ : L2.St} {H : Hp} {R : List V → Hp → Prop} (d : PyData) (h : ∀ R : V → V → Hp → Prop, (∀ a b H', Same H H' → Dp K H' a d → Dp K H' b d → R a b H') → ta σ H fun a H1 => tb σ H1 fun b H2 => R a b H2) (bd : Bd 20 100000 d)
    (k : ∀ p H', Same H H' → PairOk K H' p → tr σ H' (fun xs H2 => R (.ref p :: xs) H2)) : tCons (tTup (tCons ta (tCons tb tNil))) tr σ H R := by
  refine h (fun a b H2 => [a, b].length ≤ sizeLine ∧ ∀ p, H2 p = none → tr σ (upd H2 p (.tup [a, b])) fun xs H3 => R (.ref p :: xs) H3) fun a b H' s da db => ?_
  exact ⟨by show 2 ≤ sizeLine; rw [sizeLine_eq]; decide, fun p hp => k p _ (s.trans (same_upd hp)) ⟨a, b, d, upd_same, dp_at (same_upd hp) da, dp_at (same_upd hp) db, bd⟩⟩
theorem emp_rd {K : PySem.W.Frag} {ta : TE} {σ : L2.St} {H : Hp} {a : V} (h1 : ∀ R : VK, R a H → ta σ H R) (da : Dp K H a (.tuple [])) (R : V → V → Hp → Prop) (q : ∀ a b H', Same H H' → Dp K H' a (.tuple []) → Dp K H' b (.tuple []) → R a b H') : ta σ H fun a H1 => tTup tNil σ H1 fun b H2 => R a b H2 :=
  h1 _ ⟨by show 0 ≤ sizeLine; rw [sizeLine_eq]; decide, fun p hp => q _ _ _ (same_upd hp) (dp_at (same_upd hp) da) (.tup (.of upd_same) .nil)⟩
theorem con_rd {K : PySem.W.Frag} {ta tb : TE} {σ : L2.St} {H : Hp} {a b : V} {d : PyData} (h1 : ∀ R : VK, R a H → ta σ H R) (h2 : ∀ R : VK, R b H → tb σ H R) (da : Dp K H a d) (db : Dp K H b d) (R : V → V → Hp → Prop) (q : ∀ a b H', Same H H' → Dp K H' a d → Dp K H' b d → R a b H') : ta σ H fun a H1 => tb σ H1 fun b H2 => R a b H2 :=
  h1 _ (h2 _ (q _ _ _ (Same.refl _) da db))
theorem lst_in2 {t : TA} {g : TG} {rest : TS} {D : Ends} {R : VK} {B C : L2.St → Hp → Prop} {σ : L2.St} {H : Hp} {rd : R2} {tx : TE} (h : tx σ H fun x H0 => t σ H0 fun xs H1 => xs.length ≤ sizeLine ∧ ∀ p, H1 p = none → rd x (.ref p) (upd H1 p (.lst xs)) fun y H2 => g y σ H2 (rest D)) : (Ends.mk (tSeq (tAsg (tOp rd tx (tLst t)) g) rest D) R B C).nx σ H := h
def spPlain (K : PySem.W.Frag) : Sp := fun vs H Q _ => ∃ (wd : Str) (v : V) (d : PyData), vs = [.str wd, v] ∧ Bd 0 12 (.str wd) ∧ Dp K H v d ∧ Bd 2 12 d ∧ ∀ H', Same H H' → Q (.bl true) H'
section
variable {P : Program} {w : World} {K : PySem.W.Frag} {mg : Str → Option Value} {base : Heap}
abbrev s_law_plain_holds : Stmt := top 21
abbrev nPlain : List Str := ["word", "value", "shaped", "judged", "whole", "pairs", "other", "entry", "pair"]
theorem sc_law_plain_holds : FnScope nPlain ["word", "value"] (defScope s_law_plain_holds) := ⟨rfl, rfl, rfl, by decide +kernel, rfl, by decide +kernel, by decide +kernel⟩
theorem ok_plain {CS CV CW f f1 f2 f3 f4 f5 f6 : Addr} {fd fd1 fd2 fd3 fd4 fd5 fd6 : FuncData} (D : DefAt K mg "_law_plain_holds" s_law_plain_holds ["word", "value"] f fd) (D1 : DefAt K mg "_law_alike" s_law_alike ["actual", "due"] f1 fd1) (IM : ItM K CS f5 fd5) (LM : LnM K CS f6 fd6) (XS : ShC K CS) (XV : VeC K CV) (XW : WhC K CW)
    (MS : Mk K CS f2) (mS : mg "SquareTable" = some (.ref CS)) (BS : BareS K fd2) (MV : Mk K CV f3) (mV : mg "Verdict" = some (.ref CV)) (BV : BareV K fd3) (MW : Mk K CW f4) (mW : mg "Whole" = some (.ref CW)) (BW : BareW K fd4)
    (GS : FnOk P w K mg base CX0 5 f2 fd2 psS (spShape K CS)) (GV : FnOk P w K mg base CX0 1 f3 fd3 psV (spVer K CV)) (GW : FnOk P w K mg base CX0 1 f4 fd4 psW (spWho K CW)) (T : Bn mg) : FnG P w K mg base 7 f fd ["word", "value"] (spPlain K) := by
  have G_alike : FnG P w K mg base 1 f1 fd1 ["actual", "due"] (spAlike K) := ok_alike D1 T
  have G_len : FnOk P w K mg base CX0 1 f6 fd6 ["self"] (spLen K CS) := ok_len LM.F XS T
  obtain ⟨dsS, tS1, tS2, tS3, bS, vS, eS1, eS2, eS3⟩ := BS.b
  obtain ⟨gS, tK1, tK2, tK3, kS, eK1, eK2, eK3⟩ := BS.k
  obtain ⟨dsV, tV, bV, vV, eV⟩ := BV.b
  obtain ⟨dsW, tW, bW, vW, eW⟩ := BW.b
  refine fnG_of D.F sc_law_plain_holds (fun vs H Q E h => ?_) (fun cdv A outer s H vs Q E hgd hr h => ?_)
  · obtain ⟨_, _, _, rfl, _⟩ := h
    rfl
  · obtain ⟨wd, val, dv, rfl, bw, hv, bv, k⟩ := h
    refine ⟨_, (pss_cons (ps_par3 (i := 2) (j := 3) (l := 4) (by rfl) sc_law_plain_holds.nd rfl rfl rfl (by decide) (by decide) (by decide) rfl rfl rfl (pa_cons (pe_make MS GS (hr.mono (by decide)) rfl mS bS vS pass0 (pa_cons (pv 0) pa_nil)) (pa_cons (pe_make MV GV (hr.mono (by decide)) rfl mV bV vV pass0 (pa_cons (pv 0) pa_nil)) (pa_cons (pe_make MW GW (hr.mono (by decide)) rfl mW bW vW pass0 (pa_cons (pv 0) pa_nil)) pa_nil))) (by rfl))
    (pss_cons (ps_set (i := 5) sc_law_plain_holds.nd rfl (Or.inl rfl) (pe_lst (pa_cons (pe_tup (pa_cons (pe_fld (pv 2) rfl) (pa_cons (pe_tup pa_nil) pa_nil))) (pa_cons (pe_tup (pa_cons (pe_fld (pv 2) rfl) (pa_cons (pe_tup pa_nil) pa_nil))) (pa_cons (pe_tup (pa_cons (pe_fld (pv 2) rfl) (pa_cons (pe_tup pa_nil) pa_nil))) (pa_cons (pe_tup (pa_cons (pe_fld (pv 2) rfl) (pa_cons pe_non pa_nil))) (pa_cons (pe_tup (pa_cons (pe_fld (pv 3) rfl) (pa_cons pe_non pa_nil))) (pa_cons (pe_tup (pa_cons (pe_fld (pv 3) rfl) (pa_cons pe_non pa_nil))) (pa_cons (pe_tup (pa_cons (pe_fld (pv 3) rfl) (pa_cons pe_non pa_nil))) (pa_cons (pe_tup (pa_cons (pe_fld (pv 3) rfl) (pa_cons (pe_tup pa_nil) pa_nil))) (pa_cons (pe_tup (pa_cons (pe_fld (pv 4) rfl) (pa_cons (pe_tup pa_nil) pa_nil))) (pa_cons (pe_tup (pa_cons (pe_fld (pv 4) rfl) (pa_cons pe_non pa_nil))) (pa_cons (pe_tup (pa_cons (pe_fld (pv 4) rfl) (pa_cons pe_non pa_nil))) (pa_cons (pe_tup (pa_cons (pe_fld (pv 2) rfl) (pa_cons (pv 0) pa_nil))) (pa_cons (pe_tup (pa_cons (pe_fld (pv 3) rfl) (pa_cons (pv 0) pa_nil))) (pa_cons (pe_tup (pa_cons (pe_fld (pv 4) rfl) (pa_cons (pv 0) pa_nil))) (pa_cons (pe_tup (pa_cons (pe_callB (call_lenO LM.hi LM.hf G_len LM.b (hr.mono (by decide))) (by rfl) T.n_len PySem.boot_len (pa_cons (pv 2) pa_nil)) (pa_cons pe_int pa_nil))) pa_nil)))))))))))))))))
    (pss_cons (ps_set (i := 6) sc_law_plain_holds.nd rfl (Or.inl rfl) (pe_makeK (n := 1) MS GS (hr.mono (by decide)) rfl mS kS pass0 (pa_cons (pv 0) pa_nil) (pk_cons (pv 1) pk_nil)))
    (pss_cons (ps_set (i := 5) sc_law_plain_holds.nd rfl (Or.inl rfl) (pe_op op_cat (pv 5) (pe_lst (pa_cons (pe_tup (pa_cons (pe_fld (pv 6) rfl) (pa_cons (pv 1) pa_nil))) (pa_cons (pe_tup (pa_cons (pe_fld (pv 6) rfl) (pa_cons (pe_tup pa_nil) pa_nil))) (pa_cons (pe_tup (pa_cons (pe_lc (own := [("entry", 7)]) (g := gName 7) (tt := tYes) rfl sc_law_plain_holds.nd (pi_sq (pv 6) IM XS T.n_iter (hr.mono (by decide))) (blkOk_by (N := nPlain) (sc := defScope s_law_plain_holds) (by decide +kernel)) (fun _ _ _ _ _ => (pg_name (i := 7) sc_law_plain_holds.nd rfl (Or.inl rfl))) (fun _ _ _ _ _ => pts_nil) (fun _ _ _ _ _ => (pv 7))) (pa_cons (pe_lst pa_nil) pa_nil))) pa_nil))))))
    (pss_one (ps_ret (pe_cmpR (op_eqD hr.units) (pe_lc (own := [("pair", 8)]) (g := gName 8) rfl sc_law_plain_holds.nd (pi_list (pv 5)) (blkOk_by (N := nPlain) (sc := defScope s_law_plain_holds) (by decide +kernel)) (fun _ _ _ _ _ => (pg_name (i := 8) sc_law_plain_holds.nd rfl (Or.inl rfl))) (fun _ _ _ _ _ => (pts_one (pt_not (pt_val (pe_callG G_alike hgd (hr.mono (by decide)) rfl D1.m D1.F.kp D1.b (pa_cons (pe_ix (ix_tupK (K := K) rfl) (pv 8) pe_int (fun _ _ => rfl)) (pa_cons (pe_ix (ix_tupK (K := K) rfl) (pv 8) pe_int (fun _ _ => rfl)) pa_nil))))))) (fun _ _ _ _ _ => (pv 8))) (pe_lst pa_nil) (nomark _)))))))), ?_⟩
    -- SquareTable(word)
    refine ⟨_, rfl, fun sa dx hsn hdx nes => ?_⟩
    have gm := ((Gr.refl (Z := Z0) (Same.refl H)).mk0 (o := .own sa) hdx).mk0 (o := .ins CS dx []) (show upd H dx (.own sa) sa = none by rw [upd_ne nes.symm]; exact hsn)
    have hsa : (upd (upd H dx (.own sa)) sa (.ins CS dx [])) sa = some (.ins CS dx []) := upd_same
    revert gm hsa
    generalize upd (upd H dx (.own sa)) sa (.ins CS dx []) = H0
    intro gm hsa
    refine ⟨sa, dx, H, wd, .ref tS1, .ref tS2, .ref tS3, .non, [], [], [], .none, rfl, hsa, hsn, gm.sub, eS1.seqIn, eS2.seqIn, eS3.rowsIn, .non, rfl, rfl, by decide, (fun d h => by cases h), by decide, fun G1 H1 fs gg gx hs sf => ⟨rfl, ?_⟩⟩
    have s1 := (gm.drop gg hsn).same
    have sf := sf.at_ gg.sub
    clear gm hsa gg gx
    -- Verdict(word)
    refine ⟨_, rfl, fun ja dj hjn hdj nej => ?_⟩
    have gm := ((Gr.refl (Z := Z0) (Same.refl H1)).mk0 (o := .own ja) hdj).mk0 (o := .ins CV dj []) (show upd H1 dj (.own ja) ja = none by rw [upd_ne nej.symm]; exact hjn)
    have hja : (upd (upd H1 dj (.own ja)) ja (.ins CV dj [])) ja = some (.ins CV dj []) := upd_same
    revert gm hja
    generalize upd (upd H1 dj (.own ja)) ja (.ins CV dj []) = H2
    intro gm hja
    refine ⟨ja, dj, H1, wd, .non, .non, .non, .ref tV, .none, .none, .none, [], rfl, hja, hjn, gm.sub, .non, .non, .non, eV.seqIn, fun G3 H3 fj gg gx hj vf => ⟨rfl, ?_⟩⟩
    have s2 := (gm.drop gg hjn).same
    have vf := vf.at_ gg.sub
    clear gm hja gg gx
    -- Whole(word)
    refine ⟨_, rfl, fun wa dw hwn hdw new => ?_⟩
    have gm := ((Gr.refl (Z := Z0) (Same.refl H3)).mk0 (o := .own wa) hdw).mk0 (o := .ins CW dw []) (show upd H3 dw (.own wa) wa = none by rw [upd_ne new.symm]; exact hwn)
    have hwa : (upd (upd H3 dw (.own wa)) wa (.ins CW dw [])) wa = some (.ins CW dw []) := upd_same
    revert gm hwa
    generalize upd (upd H3 dw (.own wa)) wa (.ins CW dw []) = H4
    intro gm hwa
    refine ⟨wa, dw, H3, wd, .ref tW, .non, .non, [], .none, .none, rfl, hwa, hwn, gm.sub, eW.seqIn, .non, .non, fun G5 H5 fw gg gx hw wf => ⟨rfl, ?_⟩⟩
    have s3 := (gm.drop gg hwn).same
    have wf := wf.at_ gg.sub
    clear gm hwa gg gx
    refine ⟨_, _, _, rfl, ?_⟩
    have s5 : Same H H5 := (s1.trans s2).trans s3
    have hs := s3 _ _ (s2 _ _ hs)
    have sf := sf.at_ (s2.trans s3)
    have hj := s3 _ _ hj
    have vf := vf.at_ s3
    -- pairs
    have t0 : Same H5 H5 := Same.refl _
    have bT : Bd 20 100000 (.tuple []) := (Bd.tup (n := 0) (m := 0) (k := 0) (fun d hd => by cases hd) (by simp)).mono (by decide) (by decide)
    have bN : Bd 20 100000 PyData.none := Bd.none.mono (by decide) (by decide)
    have bW' : Bd 20 100000 (.str wd) := bw.mono (by decide) (by decide)
    refine lst_in ?_
    obtain ⟨v1, g1, r1⟩ := sf.s
    refine pair_step2 (K := K) (.tuple []) (emp_rd (fld_rd rfl (t0 _ _ hs) XS.cl XS.s g1) (dp_at t0 r1)) bT (fun z1 J1 u1 o1 => ?_)
    have t1 := t0.trans u1
    obtain ⟨v2, g2, r2⟩ := sf.d
    refine pair_step2 (K := K) (.tuple []) (emp_rd (fld_rd rfl (t1 _ _ hs) XS.cl XS.d g2) (dp_at t1 r2)) bT (fun z2 J2 u2 o2 => ?_)
    have t2 := t1.trans u2
    obtain ⟨v3, g3, r3⟩ := sf.r
    refine pair_step2 (K := K) (.tuple []) (emp_rd (fld_rd rfl (t2 _ _ hs) XS.cl XS.r g3) (dp_at t2 r3)) bT (fun z3 J3 u3 o3 => ?_)
    have t3 := t2.trans u3
    obtain ⟨v4, g4, r4⟩ := sf.h
    refine pair_step2 (K := K) .none (con_rd (fld_rd rfl (t3 _ _ hs) XS.cl XS.h g4) (fun R q => q) (dp_at t3 r4) .non) bN (fun z4 J4 u4 o4 => ?_)
    have t4 := t3.trans u4
    obtain ⟨v5, g5, r5⟩ := vf.r
    refine pair_step2 (K := K) .none (con_rd (fld_rd rfl (t4 _ _ hj) XV.cl XV.r g5) (fun R q => q) (dp_at t4 r5) .non) bN (fun z5 J5 u5 o5 => ?_)
    have t5 := t4.trans u5
    obtain ⟨v6, g6, r6⟩ := vf.n
    refine pair_step2 (K := K) .none (con_rd (fld_rd rfl (t5 _ _ hj) XV.cl XV.n g6) (fun R q => q) (dp_at t5 r6) .non) bN (fun z6 J6 u6 o6 => ?_)
    have t6 := t5.trans u6
    obtain ⟨v7, g7, r7⟩ := vf.t
    refine pair_step2 (K := K) .none (con_rd (fld_rd rfl (t6 _ _ hj) XV.cl XV.t g7) (fun R q => q) (dp_at t6 r7) .non) bN (fun z7 J7 u7 o7 => ?_)
    have t7 := t6.trans u7
    obtain ⟨v8, g8, r8⟩ := vf.s
    refine pair_step2 (K := K) (.tuple []) (emp_rd (fld_rd rfl (t7 _ _ hj) XV.cl XV.s g8) (dp_at t7 r8)) bT (fun z8 J8 u8 o8 => ?_)
    have t8 := t7.trans u8
    obtain ⟨v9, g9, r9⟩ := wf.r
    refine pair_step2 (K := K) (.tuple []) (emp_rd (fld_rd rfl (t8 _ _ hw) XW.cl XW.r g9) (dp_at t8 r9)) bT (fun z9 J9 u9 o9 => ?_)
    have t9 := t8.trans u9
    obtain ⟨v10, g10, r10⟩ := wf.q
    refine pair_step2 (K := K) .none (con_rd (fld_rd rfl (t9 _ _ hw) XW.cl XW.q g10) (fun R q => q) (dp_at t9 r10) .non) bN (fun z10 J10 u10 o10 => ?_)
    have t10 := t9.trans u10
    obtain ⟨v11, g11, r11⟩ := wf.v
    refine pair_step2 (K := K) .none (con_rd (fld_rd rfl (t10 _ _ hw) XW.cl XW.v g11) (fun R q => q) (dp_at t10 r11) .non) bN (fun z11 J11 u11 o11 => ?_)
    have t11 := t10.trans u11
    obtain ⟨v12, g12, r12⟩ := sf.w
    refine pair_step2 (K := K) (.str wd) (con_rd (fld_rd rfl (t11 _ _ hs) XS.cl XS.w g12) (vr_rd rfl) (dp_at t11 r12) (.str wd)) bW' (fun z12 J12 u12 o12 => ?_)
    have t12 := t11.trans u12
    obtain ⟨v13, g13, r13⟩ := vf.w
    refine pair_step2 (K := K) (.str wd) (con_rd (fld_rd rfl (t12 _ _ hj) XV.cl XV.w g13) (vr_rd rfl) (dp_at t12 r13) (.str wd)) bW' (fun z13 J13 u13 o13 => ?_)
    have t13 := t12.trans u13
    obtain ⟨v14, g14, r14⟩ := wf.w
    refine pair_step2 (K := K) (.str wd) (con_rd (fld_rd rfl (t13 _ _ hw) XW.cl XW.w g14) (vr_rd rfl) (dp_at t13 r14) (.str wd)) bW' (fun z14 J14 u14 o14 => ?_)
    have t14 := t13.trans u14
    refine pair_step2 (K := K) (.int 0) (con_rd (K := K) (a := .int 0) (fun R q => ⟨_, rfl, sa, dx, fs, rfl, t14 _ _ hs, sa, dx, fs, [], rfl, t14 _ _ hs, HasF.at_ t14 ⟨v1, g1, r1⟩, 0, rfl, Nat.zero_le _, q⟩) (fun R q => q) (.int 0) (.int 0)) ((Bd.int (by decide) (by decide)).mono (by decide) (by decide)) (fun z15 J15 u15 o15 => ?_)
    have t15 := t14.trans u15
    refine ⟨by show 15 ≤ sizeLine; rw [sizeLine_eq]; decide, fun Pl hPl => ?_⟩
    have hall : ∀ x ∈ [V.ref z1, V.ref z2, V.ref z3, V.ref z4, V.ref z5, V.ref z6, V.ref z7, V.ref z8, V.ref z9, V.ref z10, V.ref z11, V.ref z12, V.ref z13, V.ref z14, V.ref z15], ∃ p, x = .ref p ∧ PairOk K (upd J15 Pl (.lst [V.ref z1, V.ref z2, V.ref z3, V.ref z4, V.ref z5, V.ref z6, V.ref z7, V.ref z8, V.ref z9, V.ref z10, V.ref z11, V.ref z12, V.ref z13, V.ref z14, V.ref z15])) p := by
      intro x hx
      have sl := same_upd (o := .lst [V.ref z1, V.ref z2, V.ref z3, V.ref z4, V.ref z5, V.ref z6, V.ref z7, V.ref z8, V.ref z9, V.ref z10, V.ref z11, V.ref z12, V.ref z13, V.ref z14, V.ref z15]) hPl
      simp only [List.mem_cons, List.not_mem_nil, or_false] at hx
      rcases hx with rfl | rfl | rfl | rfl | rfl | rfl | rfl | rfl | rfl | rfl | rfl | rfl | rfl | rfl | rfl
      · exact ⟨_, rfl, o1.at_ ((((((((((((((u2.trans u3).trans u4).trans u5).trans u6).trans u7).trans u8).trans u9).trans u10).trans u11).trans u12).trans u13).trans u14).trans u15).trans sl)⟩
      · exact ⟨_, rfl, o2.at_ (((((((((((((u3.trans u4).trans u5).trans u6).trans u7).trans u8).trans u9).trans u10).trans u11).trans u12).trans u13).trans u14).trans u15).trans sl)⟩
      · exact ⟨_, rfl, o3.at_ ((((((((((((u4.trans u5).trans u6).trans u7).trans u8).trans u9).trans u10).trans u11).trans u12).trans u13).trans u14).trans u15).trans sl)⟩
      · exact ⟨_, rfl, o4.at_ (((((((((((u5.trans u6).trans u7).trans u8).trans u9).trans u10).trans u11).trans u12).trans u13).trans u14).trans u15).trans sl)⟩
      · exact ⟨_, rfl, o5.at_ ((((((((((u6.trans u7).trans u8).trans u9).trans u10).trans u11).trans u12).trans u13).trans u14).trans u15).trans sl)⟩
      · exact ⟨_, rfl, o6.at_ (((((((((u7.trans u8).trans u9).trans u10).trans u11).trans u12).trans u13).trans u14).trans u15).trans sl)⟩
      · exact ⟨_, rfl, o7.at_ ((((((((u8.trans u9).trans u10).trans u11).trans u12).trans u13).trans u14).trans u15).trans sl)⟩
      · exact ⟨_, rfl, o8.at_ (((((((u9.trans u10).trans u11).trans u12).trans u13).trans u14).trans u15).trans sl)⟩
      · exact ⟨_, rfl, o9.at_ ((((((u10.trans u11).trans u12).trans u13).trans u14).trans u15).trans sl)⟩
      · exact ⟨_, rfl, o10.at_ (((((u11.trans u12).trans u13).trans u14).trans u15).trans sl)⟩
      · exact ⟨_, rfl, o11.at_ ((((u12.trans u13).trans u14).trans u15).trans sl)⟩
      · exact ⟨_, rfl, o12.at_ (((u13.trans u14).trans u15).trans sl)⟩
      · exact ⟨_, rfl, o13.at_ ((u14.trans u15).trans sl)⟩
      · exact ⟨_, rfl, o14.at_ (u15.trans sl)⟩
      · exact ⟨_, rfl, o15.at_ sl⟩
    have hPs : (upd J15 Pl (.lst [V.ref z1, V.ref z2, V.ref z3, V.ref z4, V.ref z5, V.ref z6, V.ref z7, V.ref z8, V.ref z9, V.ref z10, V.ref z11, V.ref z12, V.ref z13, V.ref z14, V.ref z15])) Pl = some (.lst [V.ref z1, V.ref z2, V.ref z3, V.ref z4, V.ref z5, V.ref z6, V.ref z7, V.ref z8, V.ref z9, V.ref z10, V.ref z11, V.ref z12, V.ref z13, V.ref z14, V.ref z15]) := upd_same
    have s6 := s5.trans (t15.trans (same_upd (o := .lst [V.ref z1, V.ref z2, V.ref z3, V.ref z4, V.ref z5, V.ref z6, V.ref z7, V.ref z8, V.ref z9, V.ref z10, V.ref z11, V.ref z12, V.ref z13, V.ref z14, V.ref z15]) hPl))
    have ln : [V.ref z1, V.ref z2, V.ref z3, V.ref z4, V.ref z5, V.ref z6, V.ref z7, V.ref z8, V.ref z9, V.ref z10, V.ref z11, V.ref z12, V.ref z13, V.ref z14, V.ref z15].length = 15 := rfl
    clear hPl
    revert hPs s6 hall ln
    generalize upd J15 Pl (.lst [V.ref z1, V.ref z2, V.ref z3, V.ref z4, V.ref z5, V.ref z6, V.ref z7, V.ref z8, V.ref z9, V.ref z10, V.ref z11, V.ref z12, V.ref z13, V.ref z14, V.ref z15]) = H6
    generalize [V.ref z1, V.ref z2, V.ref z3, V.ref z4, V.ref z5, V.ref z6, V.ref z7, V.ref z8, V.ref z9, V.ref z10, V.ref z11, V.ref z12, V.ref z13, V.ref z14, V.ref z15] = zl
    intro hall hPs s6 ln
    clear o1 u1 o2 u2 o3 u3 o4 u4 o5 u5 o6 u6 o7 u7 o8 u8 o9 u9 o10 u10 o11 u11 o12 u12 o13 u13 o14 u14 o15 u15 t15 t14 t13 t12 t11 t10 t9 t8 t7 t6 t5 t4 t3 t2 t1 t0
    -- other
    refine ⟨_, rfl, _, rfl, rfl, rfl, fun oa dxo hon hdo neo => ?_⟩
    have gm := ((Gr.refl (Z := Z0) (Same.refl H6)).mk0 (o := .own oa) hdo).mk0 (o := .ins CS dxo []) (show upd H6 dxo (.own oa) oa = none by rw [upd_ne neo.symm]; exact hon)
    have hoa : (upd (upd H6 dxo (.own oa)) oa (.ins CS dxo [])) oa = some (.ins CS dxo []) := upd_same
    revert gm hoa
    generalize upd (upd H6 dxo (.own oa)) oa (.ins CS dxo []) = H7
    intro gm hoa
    refine ⟨oa, dxo, H6, wd, .ref tK1, .ref tK2, .ref tK3, val, [], [], [], dv, rfl, hoa, hon, gm.sub, eK1.seqIn, eK2.seqIn, eK3.rowsIn, dp_at s6 hv, rfl, rfl, by decide, (fun d h => by cases h), Nat.le_trans bv.b (by decide), fun G8 H8 fo gg gx ho of => ⟨rfl, ?_⟩⟩
    have s7 := (gm.drop gg hon).same
    have of := of.at_ gg.sub
    clear gm hoa gg gx
    have hP8 := s7 _ _ hPs
    have s8 := s6.trans s7
    -- pairs + ..
    obtain ⟨w1, k1, x1⟩ := of.h
    obtain ⟨w2, k2, x2⟩ := of.s
    obtain ⟨w3, k3, x3⟩ := of.t
    refine lst_in2 ⟨_, rfl, ?_⟩
    refine pair_step2 (K := K) dv (con_rd (fld_rd rfl ho XS.cl XS.h k1) (vr_rd rfl) x1 (dp_at s8 hv)) (bv.mono (by decide) (by decide)) (fun y1 J1 u1 o1 => ?_)
    refine pair_step2 (K := K) (.tuple []) (emp_rd (fld_rd rfl (u1 _ _ ho) XS.cl XS.s k2) (dp_at u1 x2)) bT (fun y2 J2 u2 o2 => ?_)
    have u12 := u1.trans u2
    have x3 : Dp K H8 w3 (.list []) := x3
    refine pair_step2 (K := K) (.list []) (fun R q => ?_) ((Bd.lst (n := 0) (m := 0) (k := 0) (fun d hd => by cases hd) (by simp)).mono (by decide) (by decide)) (fun y3 J3 u3 o3 => ?_)
    · cases x3 with
      | @lst tl txs _ qtl tal =>
        cases tal
        refine ⟨_, rfl, oa, dxo, tl, fo, [], rfl, u12 _ _ ho, k3, seqL_at u12 qtl, fun L hL => ?_⟩
        refine lc_list (K := K) (a := tl) (xs := []) (fun j H9 => H9 L = some (.lst []) ∧ Same J2 H9) ⟨upd_same, same_upd hL⟩ (fun j H9 _ h => seqL_at (u12.trans h.2) qtl) (fun j x H9 hx _ => by simp at hx) ?_
        rintro H9 ⟨h1, h2⟩
        exact ⟨by show 0 ≤ sizeLine; rw [sizeLine_eq]; decide, fun e he => q _ _ _ (h2.trans (same_upd he)) (.lst (.of (same_upd he _ _ h1)) .nil) (.lst (.of upd_same) .nil)⟩
    have u13 := u12.trans u3
    refine ⟨by show 3 ≤ sizeLine; rw [sizeLine_eq]; decide, fun Pm hPm => ?_⟩
    have sm1 := same_upd (o := .lst [.ref y1, .ref y2, .ref y3]) hPm
    refine ⟨Pl, Pm, zl, _, rfl, rfl, sm1 _ _ (u13 _ _ hP8), upd_same, by rw [ln, sizeLine_eq]; show 15 + 3 ≤ 16777216; decide, fun Pn hPn => ?_⟩
    have sm2 := same_upd (o := .lst (zl ++ [.ref y1, .ref y2, .ref y3])) hPn
    have hall2 : ∀ x ∈ zl ++ [V.ref y1, V.ref y2, V.ref y3], ∃ p, x = .ref p ∧ PairOk K (upd (upd J3 Pm (.lst [.ref y1, .ref y2, .ref y3])) Pn (.lst (zl ++ [.ref y1, .ref y2, .ref y3]))) p := by
      intro x hx
      rcases List.mem_append.mp hx with hx | hx
      · obtain ⟨p, h1, h2⟩ := hall x hx
        exact ⟨p, h1, h2.at_ (((s7.trans u13).trans sm1).trans sm2)⟩
      · simp only [List.mem_cons, List.not_mem_nil, or_false] at hx
        rcases hx with rfl | rfl | rfl
        · exact ⟨_, rfl, o1.at_ (((u2.trans u3).trans sm1).trans sm2)⟩
        · exact ⟨_, rfl, o2.at_ ((u3.trans sm1).trans sm2)⟩
        · exact ⟨_, rfl, o3.at_ (sm1.trans sm2)⟩
    have s9 := ((s8.trans u13).trans sm1).trans sm2
    have hPn2 : (upd (upd J3 Pm (.lst [.ref y1, .ref y2, .ref y3])) Pn (.lst (zl ++ [.ref y1, .ref y2, .ref y3]))) Pn = some (.lst (zl ++ [.ref y1, .ref y2, .ref y3])) := upd_same
    clear hPn sm1 sm2 o1 o2 o3
    revert hall2 s9 hPn2
    generalize upd (upd J3 Pm (.lst [.ref y1, .ref y2, .ref y3])) Pn (.lst (zl ++ [.ref y1, .ref y2, .ref y3])) = H9
    generalize zl ++ [V.ref y1, V.ref y2, V.ref y3] = zz
    intro hall2 s9 hPn2
    -- [pair ..] == []
    refine ⟨_, rfl, Pn, rfl, ⟨_, .of hPn2⟩, fun L hL => ?_⟩
    refine lc_list (K := K) (a := Pn) (xs := zz) (fun j H10 => H10 L = some (.lst []) ∧ Same H9 H10) ⟨upd_same, same_upd hL⟩ (fun j H10 _ h => .of (h.2 _ _ hPn2)) ?_ ?_
    · rintro j x H10 hx ⟨h1, h2⟩
      obtain ⟨p, rfl, a, b, d, q1, q2, q3, q4⟩ := hall2 x (List.mem_of_getElem? hx)
      refine ⟨rfl, _, rfl, p, [a, b], 0, a, rfl, rfl, .of (h2 _ _ q1), rfl, _, rfl, p, [a, b], 1, b, rfl, rfl, .of (h2 _ _ q1), rfl, a, b, d, rfl, dp_at h2 q2, dp_at h2 q3, q4, _, rfl, ?_⟩
      exact iteF ⟨h1, h2⟩
    · rintro H10 ⟨h1, h2⟩
      refine ⟨by show 0 ≤ sizeLine; rw [sizeLine_eq]; decide, fun e he => ?_⟩
      refine ⟨.list [], .list [], .lst (.of (same_upd he _ _ h1)) .nil, .lst (.of upd_same) .nil, by decide, by decide, ?_⟩
      have ev : PyData.eqv (.list []) (.list []) = true := by simp [PyData.eqv, PyData.eqvAll]
      rw [ev]
      exact k _ ((s9.trans h2).trans (same_upd he))
end
end B7
namespace B7
open PySem PySem.Spec PyProof.Rows L2
def spLaw (K : PySem.W.Frag) : Sp := fun vs H Q _ => ∃ (a : Addr) (ns : List Int), vs = [.ref a] ∧ SqL K H a (ns.map V.int) ∧ ns.length ≤ 1000 ∧ ∀ H', Q (.bl true) H'
section
variable {P : Program} {w : World} {K : PySem.W.Frag} {mg : Str → Option Value} {base : Heap}
abbrev s_law : Stmt := top 22
theorem sc_law : FnScope ["script", "box", "first", "second", "value", "one", "two"] ["script"] (defScope s_law) := ⟨rfl, rfl, rfl, by decide +kernel, rfl, by decide +kernel, by decide +kernel⟩
theorem ok_law {CS CV CW f f1 f2 f3 f4 f5 f6 f7 : Addr} {fd fd1 fd2 fd3 fd4 fd5 fd6 fd7 : FuncData} (D : DefAt K mg "law" s_law ["script"] f fd)
    (D1 : DefAt K mg "_law_box" s_law_box ["script"] f1 fd1) (D2 : DefAt K mg "_law_drawn" s_law_drawn ["box"] f2 fd2) (D3 : DefAt K mg "_law_anything" s_law_anything ["box"] f3 fd3) (D4 : DefAt K mg "_law_made" s_law_made ["drawn"] f4 fd4) (D5 : DefAt K mg "_law_holds" s_law_holds ["drawn", "shaped", "judged", "whole"] f5 fd5) (D6 : DefAt K mg "_law_spoilt" s_law_spoilt ["passed"] f6 fd6) (D7 : DefAt K mg "_law_plain_holds" s_law_plain_holds ["word", "value"] f7 fd7)
    (G_box : FnOk P w K mg base CX0 1 f1 fd1 ["script"] (spBox K)) (G_drawn : FnOk P w K mg base CX0 4 f2 fd2 ["box"] (spDrawn K)) (G_any : FnOk P w K mg base CX0 2 f3 fd3 ["box"] (spDraw K AnyD)) (G_made : FnOk P w K mg base CX0 7 f4 fd4 ["drawn"] (spMade K CS CV CW))
    (G_holds : FnG P w K mg base 3 f5 fd5 ["drawn", "shaped", "judged", "whole"] (spHolds K CS CV CW)) (G_spoilt : FnOk P w K mg base CX0 1 f6 fd6 ["passed"] (spSpoilt K)) (G_plain : FnG P w K mg base 7 f7 fd7 ["word", "value"] (spPlain K)) : FnG P w K mg base 8 f fd ["script"] (spLaw K) := by
  refine fnG_of D.F sc_law (fun vs H Q E h => ?_) (fun cdv A outer s H vs Q E hgd hr h => ?_)
  · obtain ⟨_, _, rfl, _⟩ := h
    rfl
  · obtain ⟨a, ns, rfl, hS, hl, k⟩ := h
    have hu := hu_of hr
    refine ⟨_, (pss_cons (ps_set (i := 1) sc_law.nd rfl (Or.inl rfl) (pe_call G_box (hr.mono (by decide)) rfl D1.m D1.F.kp D1.b .nil pass0 (pa_cons (pv 0) pa_nil)))
    (pss_cons (ps_par (i := 2) (j := 3) (by rfl) sc_law.nd rfl rfl (by decide) rfl rfl (pa_cons (pe_call G_drawn (hr.mono (by decide)) rfl D2.m D2.F.kp D2.b .nil pass0 (pa_cons (pv 1) pa_nil)) (pa_cons (pe_call G_drawn (hr.mono (by decide)) rfl D2.m D2.F.kp D2.b .nil pass0 (pa_cons (pv 1) pa_nil)) pa_nil)) (by rfl))
    (pss_cons (ps_set (i := 4) sc_law.nd rfl (Or.inl rfl) (pe_call G_any (hr.mono (by decide)) rfl D3.m D3.F.kp D3.b .nil pass0 (pa_cons (pv 1) pa_nil)))
    (pss_cons (ps_set (i := 5) sc_law.nd rfl (Or.inl rfl) (pe_call G_made (hr.mono (by decide)) rfl D4.m D4.F.kp D4.b .nil pass0 (pa_cons (pv 2) pa_nil)))
    (pss_cons (ps_set (i := 6) sc_law.nd rfl (Or.inl rfl) (pe_call G_made (hr.mono (by decide)) rfl D4.m D4.F.kp D4.b .nil pass0 (pa_cons (pv 3) pa_nil)))
    (pss_cons (ps_if (PW.pt (pw_or (pt_not (pt_val (pe_callG G_holds hgd (hr.mono (by decide)) rfl D5.m D5.F.kp D5.b (pa_cons (pv 2) (pa_cons (pe_ix ix_tup (pv 5) pe_int (fun _ _ => rfl)) (pa_cons (pe_ix ix_tup (pv 5) pe_int (fun _ _ => rfl)) (pa_cons (pe_ix ix_tup (pv 5) pe_int (fun _ _ => rfl)) pa_nil))))))) (pw_or1 (pt_not (pt_val (pe_callG G_holds hgd (hr.mono (by decide)) rfl D5.m D5.F.kp D5.b (pa_cons (pv 3) (pa_cons (pe_ix ix_tup (pv 6) pe_int (fun _ _ => rfl)) (pa_cons (pe_ix ix_tup (pv 6) pe_int (fun _ _ => rfl)) (pa_cons (pe_ix ix_tup (pv 6) pe_int (fun _ _ => rfl)) pa_nil))))))))))
      (pss_one (ps_ret pe_bl))
      pss_nil)
    (pss_cons (ps_expr (pe_call G_spoilt (hr.mono (by decide)) rfl D6.m D6.F.kp D6.b .nil pass0 (pa_cons (pe_ix ix_tup (pv 6) pe_int (fun _ _ => rfl)) pa_nil)))
    (pss_cons (ps_expr (pe_call G_spoilt (hr.mono (by decide)) rfl D6.m D6.F.kp D6.b .nil pass0 (pa_cons (pe_ix ix_tup (pv 5) pe_int (fun _ _ => rfl)) pa_nil)))
    (pss_cons (ps_if (PW.pt (pw_or (pt_not (pt_val (pe_callG G_holds hgd (hr.mono (by decide)) rfl D5.m D5.F.kp D5.b (pa_cons (pv 2) (pa_cons (pe_ix ix_tup (pv 5) pe_int (fun _ _ => rfl)) (pa_cons (pe_ix ix_tup (pv 5) pe_int (fun _ _ => rfl)) (pa_cons (pe_ix ix_tup (pv 5) pe_int (fun _ _ => rfl)) pa_nil))))))) (pw_or1 (pt_not (pt_val (pe_callG G_holds hgd (hr.mono (by decide)) rfl D5.m D5.F.kp D5.b (pa_cons (pv 3) (pa_cons (pe_ix ix_tup (pv 6) pe_int (fun _ _ => rfl)) (pa_cons (pe_ix ix_tup (pv 6) pe_int (fun _ _ => rfl)) (pa_cons (pe_ix ix_tup (pv 6) pe_int (fun _ _ => rfl)) pa_nil))))))))))
      (pss_one (ps_ret pe_bl))
      pss_nil)
    (pss_one (ps_ret (pe_callG G_plain hgd hr rfl D7.m D7.F.kp D7.b (pa_cons (pe_dget hu (pv 3) pe_str (fun _ _ => rfl)) (pa_cons (pv 4) pa_nil)))))))))))))), ?_⟩
    refine ⟨_, rfl, a, ns, rfl, hS, hl, fun bx G0 H0 g0 b0 => ?_⟩
    refine ⟨_, rfl, bx, G0, rfl, g0.sub, b0, fun dr1 c1 G1 H1 g1 b1 ok1 at1 => ?_⟩
    refine ⟨_, rfl, bx, G1, rfl, g1.sub, b1, fun dr2 c2 G2 H2 g2 b2 ok2 at2 => ⟨_, _, rfl, ?_⟩⟩
    refine ⟨_, rfl, bx, G2, rfl, g2.sub, b2, fun v d G3 H3 g3 b3 hd hv => ?_⟩
    have at1 := at1.at_ (g2.sG.trans g3.sG)
    have at2 := at2.at_ g3.sG
    refine ⟨_, rfl, dr1, c1, G3, rfl, g3.sub, at1, ok1, fun m1 P1 sa1 ja1 wa1 G4 H4 g4 hm1 o1 sp1 => ?_⟩
    refine ⟨_, rfl, dr2, c2, G4, rfl, g4.sub, at2.at_ g4.sG, ok2, fun m2 P2 sa2 ja2 wa2 G5 H5 g5 hm2 o2 sp2 => ?_⟩
    have at1 := at1.at_ (g4.sG.trans g5.sG)
    have at2 := at2.at_ (g4.sG.trans g5.sG)
    have hv := dp_at (g4.sG.trans g5.sG) hv
    have hm1 := g5.sG _ _ hm1
    have o1 := o1.at_ g5.sG
    have sub := g5.sub
    -- both hold
    refine ⟨_, rfl, _, rfl, m1, _, 1, _, rfl, rfl, .of (sub _ _ hm1), rfl, _, rfl, m1, _, 2, _, rfl, rfl, .of (sub _ _ hm1), rfl, _, rfl, m1, _, 3, _, rfl, rfl, .of (sub _ _ hm1), rfl, dr1, sa1, ja1, wa1, c1, rfl, at1.at_ sub, ok1, o1.at_ sub, fun H6 s6 => ⟨_, rfl, ?_⟩⟩
    have sub6 := sub.trans s6
    refine iteF ⟨_, rfl, _, rfl, m2, _, 1, _, rfl, rfl, .of (sub6 _ _ hm2), rfl, _, rfl, m2, _, 2, _, rfl, rfl, .of (sub6 _ _ hm2), rfl, _, rfl, m2, _, 3, _, rfl, rfl, .of (sub6 _ _ hm2), rfl, dr2, sa2, ja2, wa2, c2, rfl, at2.at_ sub6, ok2, o2.at_ sub6, fun H7 s7 => ⟨_, rfl, ?_⟩⟩
    refine iteF ?_
    have s57 : Same H5 H7 := s6.trans s7
    have sub7 := sub.trans s57
    -- the lists of the second are spoilt
    have gb1 : Same G5 (fun b => if H4 b = none then G5 b else H4 b) := fun b o e => by
      show (if H4 b = none then G5 b else H4 b) = some o
      cases q : H4 b with
      | none => rw [if_pos rfl]; exact e
      | some o' =>
        rw [if_neg (by simp)]
        have e1 := g5.sub _ _ e
        have e2 := g5.same _ _ q
        rw [e1] at e2
        exact e2.symm
    have gb2 : Same H4 (fun b => if H4 b = none then G5 b else H4 b) := fun b o e => by
      show (if H4 b = none then G5 b else H4 b) = some o
      rw [if_neg (by rw [e]; simp)]; exact e
    have gb3 : Same (fun b => if H4 b = none then G5 b else H4 b) H5 := fun b o e => by
      have e : (if H4 b = none then G5 b else H4 b) = some o := e
      by_cases q : H4 b = none
      · rw [if_pos q] at e; exact g5.sub _ _ e
      · rw [if_neg q] at e; exact g5.same _ _ e
    have gb4 : ∀ b, H4 b = none → G5 b = none → (fun b => if H4 b = none then G5 b else H4 b) b = none := fun b e1 e2 => by
      show (if H4 b = none then G5 b else H4 b) = none
      rw [if_pos e1]; exact e2
    have sp2 := sp2 _ gb1 gb4
    revert gb1 gb2 gb3 sp2
    clear gb4
    generalize (fun b => if H4 b = none then G5 b else H4 b) = Gb
    intro gb1 gb2 gb3 sp2
    refine ⟨_, rfl, m2, _, 0, _, rfl, rfl, .of (sub7 _ _ hm2), rfl, P2, Gb, rfl, gb3.trans s57, sp2.mv (Same.refl _) (fun _ _ e => e) s57, fun H8 s8 => ?_⟩
    -- the lists of the first are spoilt
    have sub8 := gb1.trans s8
    have sp1 := (sp1 G4 (Same.refl _) fun _ _ e => e).mv g5.sG g5.non (gb2.trans s8)
    refine ⟨_, rfl, m1, _, 0, _, rfl, rfl, .of (sub8 _ _ hm1), rfl, P1, G5, rfl, sub8, sp1, fun H9 s9 => ?_⟩
    -- both hold
    refine ⟨_, rfl, _, rfl, m1, _, 1, _, rfl, rfl, .of (s9 _ _ hm1), rfl, _, rfl, m1, _, 2, _, rfl, rfl, .of (s9 _ _ hm1), rfl, _, rfl, m1, _, 3, _, rfl, rfl, .of (s9 _ _ hm1), rfl, dr1, sa1, ja1, wa1, c1, rfl, at1.at_ s9, ok1, o1.at_ s9, fun H10 s10 => ⟨_, rfl, ?_⟩⟩
    have t10 := s9.trans s10
    refine iteF ⟨_, rfl, _, rfl, m2, _, 1, _, rfl, rfl, .of (t10 _ _ hm2), rfl, _, rfl, m2, _, 2, _, rfl, rfl, .of (t10 _ _ hm2), rfl, _, rfl, m2, _, 3, _, rfl, rfl, .of (t10 _ _ hm2), rfl, dr2, sa2, ja2, wa2, c2, rfl, at2.at_ t10, ok2, o2.at_ t10, fun H11 s11 => ⟨_, rfl, ?_⟩⟩
    refine iteF ?_
    have t11 := t10.trans s11
    obtain ⟨kvs, hdr, _, ⟨vw, kw, dw⟩, _⟩ := at2.ex
    cases dw
    exact ⟨_, rfl, dr2, _, rfl, dget_of (t11 _ _ hdr) kw, _, rfl, c2.word, v, d, rfl, ok2.w, dp_at t11 hv, hd.1, fun H' _ => k H'⟩
end
end B7
namespace B7
open PySem PySem.Spec PyProof.Rows L2
section
variable {K : PySem.W.Frag} {f : Addr} {fd : FuncData} {t1 t2 t3 : Addr}
abbrev kwS (t1 t2 t3 : Addr) : List (Str × V) := [("squares", .ref t1), ("degrees", .ref t2), ("rows", .ref t3), ("shown", .non)]
abbrev FunS (K : PySem.W.Frag) (f : Addr) (fd : FuncData) (t1 t2 t3 : Addr) : Prop := FunD K "__init__" "SquareTable.__init__" (defArgs s_SquareTable_init) (defBody s_SquareTable_init) (defScope s_SquareTable_init) [] (kwS t1 t2 t3) f fd
theorem bareS_b (F : FunS K f fd t1 t2 t3) : ∃ ds, Vals [V.ref t1, .ref t2, .ref t3, .non] ds ∧ Binds K fd psS ds := by
  refine FunD.binds0 F 2 (by simp) rfl fun D doc pm an cdv ct us ks hu hk => ?_
  match us, hu with
  | [a, b], _ =>
    match ks, hk with
    | [x1, x2, x3, x4], _ => exact ⟨_, _, _, _, _, _, rfl, rfl, _, _, _, _, _, _, rfl, rfl, _, _, _, _, _, _, rfl, rfl, _, _, _, _, _, _, rfl, rfl, rfl⟩
theorem bareS_all (F : FunS K f fd t1 t2 t3) : ∃ g, KBn K fd psS 2 ["squares", "degrees", "rows", "shown"] g (fun vs zs => vs ++ zs) := by
  obtain ⟨mv, h⟩ := FunD.kbinds0 (ps := psS) F 2 ["squares", "degrees", "rows", "shown"] [] (fun us mv ws => us ++ ws) (by simp) (fun q hq => by cases hq) (fun r1 _ r2 => r1.append r2) fun D doc pm an cdv ct us mv ws hu hm hw => match us, hu, ws, hw with
    | [a, b], _, [x1, x2, x3, x4], _ => rfl
  exact ⟨_, h⟩
theorem bareS_k (F : FunS K f fd t1 t2 t3) : ∃ g, KBn K fd psS 2 ["shown"] g (fun vs zs => vs ++ ([.ref t1, .ref t2, .ref t3] ++ zs)) := by
  obtain ⟨mv, h⟩ := FunD.kbinds0 (ps := psS) F 2 ["shown"] [("squares", .ref t1), ("degrees", .ref t2), ("rows", .ref t3)] (fun us mv ws => us ++ (mv ++ ws)) (by simp) (fun q hq => by
    simp only [List.mem_cons, List.not_mem_nil, or_false] at hq ⊢
    rcases hq with rfl | rfl | rfl <;> simp) (fun r1 r2 r3 => r1.append (r2.append r3)) fun D doc pm an cdv ct us mv ws hu hm hw => match us, hu, mv, hm, ws, hw with
    | [a, b], _, [x1, x2, x3], _, [y], _ => ⟨_, _, _, _, _, _, rfl, rfl, _, _, _, _, _, _, rfl, rfl, _, _, _, _, _, _, rfl, rfl, rfl⟩
  exact ⟨_, h⟩
abbrev kwV (t : Addr) : List (Str × V) := [("rule", .non), ("written", .non), ("tie", .non), ("sides", .ref t)]
abbrev FunV (K : PySem.W.Frag) (f : Addr) (fd : FuncData) (t : Addr) : Prop := FunD K "__init__" "Verdict.__init__" (defArgs s_Verdict_init) (defBody s_Verdict_init) (defScope s_Verdict_init) [] (kwV t) f fd
theorem bareV_b (F : FunV K f fd t1) : ∃ ds, Vals [V.non, .non, .non, .ref t1] ds ∧ Binds K fd psV ds := by
  refine FunD.binds0 F 2 (by simp) rfl fun D doc pm an cdv ct us ks hu hk => ?_
  match us, hu with
  | [a, b], _ =>
    match ks, hk with
    | [x1, x2, x3, x4], _ => exact ⟨_, _, _, _, _, _, rfl, rfl, _, _, _, _, _, _, rfl, rfl, _, _, _, _, _, _, rfl, rfl, _, _, _, _, _, _, rfl, rfl, rfl⟩
theorem bareV_all (F : FunV K f fd t1) : ∃ g, KBn K fd psV 2 ["rule", "written", "tie", "sides"] g (fun vs zs => vs ++ zs) := by
  obtain ⟨mv, h⟩ := FunD.kbinds0 (ps := psV) F 2 ["rule", "written", "tie", "sides"] [] (fun us mv ws => us ++ ws) (by simp) (fun q hq => by cases hq) (fun r1 _ r2 => r1.append r2) fun D doc pm an cdv ct us mv ws hu hm hw => match us, hu, ws, hw with
    | [a, b], _, [x1, x2, x3, x4], _ => rfl
  exact ⟨_, h⟩
abbrev kwW (t : Addr) : List (Str × V) := [("rules", .ref t), ("quantity", .non), ("verdict", .non)]
abbrev FunW (K : PySem.W.Frag) (f : Addr) (fd : FuncData) (t : Addr) : Prop := FunD K "__init__" "Whole.__init__" (defArgs s_Whole_init) (defBody s_Whole_init) (defScope s_Whole_init) [] (kwW t) f fd
theorem bareW_b (F : FunW K f fd t1) : ∃ ds, Vals [V.ref t1, .non, .non] ds ∧ Binds K fd psW ds := by
  refine FunD.binds0 F 2 (by simp) rfl fun D doc pm an cdv ct us ks hu hk => ?_
  match us, hu with
  | [a, b], _ =>
    match ks, hk with
    | [x1, x2, x3], _ => exact ⟨_, _, _, _, _, _, rfl, rfl, _, _, _, _, _, _, rfl, rfl, _, _, _, _, _, _, rfl, rfl, rfl⟩
theorem bareW_all (F : FunW K f fd t1) : ∃ g, KBn K fd psW 2 ["rules", "quantity", "verdict"] g (fun vs zs => vs ++ zs) := by
  obtain ⟨mv, h⟩ := FunD.kbinds0 (ps := psW) F 2 ["rules", "quantity", "verdict"] [] (fun us mv ws => us ++ ws) (by simp) (fun q hq => by cases hq) (fun r1 _ r2 => r1.append r2) fun D doc pm an cdv ct us mv ws hu hm hw => match us, hu, ws, hw with
    | [a, b], _, [x1, x2, x3], _ => rfl
  exact ⟨_, h⟩
end
end B7
namespace B7
open PySem PySem.Spec PyProof.Rows L2
theorem funD_mk {K : PySem.W.Frag} {x qual : Str} {st : Stmt} {f KD : Addr} {kws : List (Str × V)} {oc dc pm cd ct : Value} {od an : Option Addr} {sl : Array (Option Value)} (l : K.lookup f = some ⟨oc, od, .func (PySem.W.fnOf x qual (defArgs st) (defBody st) (defScope st) .none (.ref KD) dc pm an cd ct), sl⟩) (c : PySem.W.codeIn K cd qual = true) (k : PySem.W.keepIn K (.ref f) = true)
    (h : ∀ q ∈ kws, ∃ u, PySem.W.nsIn K KD q.1 = some (some u) ∧ RelV q.2 u) : FunD K x qual (defArgs st) (defBody st) (defScope st) [] kws f (PySem.W.fnOf x qual (defArgs st) (defBody st) (defScope st) .none (.ref KD) dc pm an cd ct) :=
  ⟨⟨_, _, _, _, _, _, _, _, _, _, rfl, l, c, .inl ⟨rfl, rfl⟩, .inr ⟨_, rfl, h⟩⟩, k⟩
theorem all_mk {l : PySem.W.OpenLaw} {w : World} {K : PySem.W.Frag} {h : Heap} {mg : Str → Option Value}
    {fa CS CV CW f1 f2 f3 f4 f5 f6 f7 f8 f9 f10 f11 f12 f13 f14 f15 f16 f17 KD17 f18 f19 f20 KD20 f21 KD21 t1 t2 t3 t4 t5 : Addr}
    {od1 an1 od2 an2 od3 an3 od4 an4 od5 an5 od6 an6 od7 an7 od8 an8 od9 an9 od10 an10 od11 an11 od12 an12 od13 an13 od14 an14 od15 an15 od16 an16 od17 an17 od18 an18 od19 an19 od20 an20 od21 an21 tod1 tod2 tod3 tod4 tod5 : Option Addr}
    {sl1 sl2 sl3 sl4 sl5 sl6 sl7 sl8 sl9 sl10 sl11 sl12 sl13 sl14 sl15 sl16 sl17 sl18 sl19 sl20 sl21 tsl1 tsl2 tsl3 tsl4 tsl5 : Array (Option Value)}
    {oc1 kV1 dc1 pm1 cd1 ct1 oc2 kV2 dc2 pm2 cd2 ct2 oc3 kV3 dc3 pm3 cd3 ct3 oc4 kV4 dc4 pm4 cd4 ct4 oc5 kV5 dc5 pm5 cd5 ct5 oc6 kV6 dc6 pm6 cd6 ct6 oc7 kV7 dc7 pm7 cd7 ct7 oc8 kV8 dc8 pm8 cd8 ct8 oc9 kV9 dc9 pm9 cd9 ct9 oc10 kV10 dc10 pm10 cd10 ct10 oc11 kV11 dc11 pm11 cd11 ct11 oc12 kV12 dc12 pm12 cd12 ct12 oc13 kV13 dc13 pm13 cd13 ct13 oc14 kV14 dc14 pm14 cd14 ct14 oc15 kV15 dc15 pm15 cd15 ct15 oc16 kV16 dc16 pm16 cd16 ct16 oc17 dc17 pm17 cd17 ct17 oc18 kV18 dc18 pm18 cd18 ct18 oc19 kV19 dc19 pm19 cd19 ct19 oc20 dc20 pm20 cd20 ct20 oc21 dc21 pm21 cd21 ct21 : Value}
    {tn1 tn2 tn3 tn4 tn5 : Nat}
    (X : K.In h) (G : h.Ns mainGlobals mg) (hfa : mg "law" = some (.ref fa))
    (a1 : PySem.W.nsIn K mainGlobals "copied" = some (some (.ref f1)))
    (l1 : K.lookup f1 = some ⟨oc1, od1, .func (PySem.W.fnOf "copied" "copied" (defArgs s_copied) (defBody s_copied) (defScope s_copied) .none kV1 dc1 pm1 an1 cd1 ct1), sl1⟩)
    (c1 : PySem.W.codeIn K cd1 "copied" = true)
    (k1 : PySem.W.keepIn K (.ref f1) = true)
    (a2 : PySem.W.nsIn K mainGlobals "frozen" = some (some (.ref f2)))
    (l2 : K.lookup f2 = some ⟨oc2, od2, .func (PySem.W.fnOf "frozen" "frozen" (defArgs s_frozen) (defBody s_frozen) (defScope s_frozen) .none kV2 dc2 pm2 an2 cd2 ct2), sl2⟩)
    (c2 : PySem.W.codeIn K cd2 "frozen" = true)
    (k2 : PySem.W.keepIn K (.ref f2) = true)
    (a3 : PySem.W.nsIn K mainGlobals "_law_box" = some (some (.ref f3)))
    (l3 : K.lookup f3 = some ⟨oc3, od3, .func (PySem.W.fnOf "_law_box" "_law_box" (defArgs s_law_box) (defBody s_law_box) (defScope s_law_box) .none kV3 dc3 pm3 an3 cd3 ct3), sl3⟩)
    (c3 : PySem.W.codeIn K cd3 "_law_box" = true)
    (k3 : PySem.W.keepIn K (.ref f3) = true)
    (a4 : PySem.W.nsIn K mainGlobals "_law_take" = some (some (.ref f4)))
    (l4 : K.lookup f4 = some ⟨oc4, od4, .func (PySem.W.fnOf "_law_take" "_law_take" (defArgs s_law_take) (defBody s_law_take) (defScope s_law_take) .none kV4 dc4 pm4 an4 cd4 ct4), sl4⟩)
    (c4 : PySem.W.codeIn K cd4 "_law_take" = true)
    (k4 : PySem.W.keepIn K (.ref f4) = true)
    (a5 : PySem.W.nsIn K mainGlobals "_law_is_count" = some (some (.ref f5)))
    (l5 : K.lookup f5 = some ⟨oc5, od5, .func (PySem.W.fnOf "_law_is_count" "_law_is_count" (defArgs s_law_is_count) (defBody s_law_is_count) (defScope s_law_is_count) .none kV5 dc5 pm5 an5 cd5 ct5), sl5⟩)
    (c5 : PySem.W.codeIn K cd5 "_law_is_count" = true)
    (k5 : PySem.W.keepIn K (.ref f5) = true)
    (a6 : PySem.W.nsIn K mainGlobals "_law_anything" = some (some (.ref f6)))
    (l6 : K.lookup f6 = some ⟨oc6, od6, .func (PySem.W.fnOf "_law_anything" "_law_anything" (defArgs s_law_anything) (defBody s_law_anything) (defScope s_law_anything) .none kV6 dc6 pm6 an6 cd6 ct6), sl6⟩)
    (c6 : PySem.W.codeIn K cd6 "_law_anything" = true)
    (k6 : PySem.W.keepIn K (.ref f6) = true)
    (a7 : PySem.W.nsIn K mainGlobals "_law_row" = some (some (.ref f7)))
    (l7 : K.lookup f7 = some ⟨oc7, od7, .func (PySem.W.fnOf "_law_row" "_law_row" (defArgs s_law_row) (defBody s_law_row) (defScope s_law_row) .none kV7 dc7 pm7 an7 cd7 ct7), sl7⟩)
    (c7 : PySem.W.codeIn K cd7 "_law_row" = true)
    (k7 : PySem.W.keepIn K (.ref f7) = true)
    (a8 : PySem.W.nsIn K mainGlobals "_law_kept" = some (some (.ref f8)))
    (l8 : K.lookup f8 = some ⟨oc8, od8, .func (PySem.W.fnOf "_law_kept" "_law_kept" (defArgs s_law_kept) (defBody s_law_kept) (defScope s_law_kept) .none kV8 dc8 pm8 an8 cd8 ct8), sl8⟩)
    (c8 : PySem.W.codeIn K cd8 "_law_kept" = true)
    (k8 : PySem.W.keepIn K (.ref f8) = true)
    (a9 : PySem.W.nsIn K mainGlobals "_law_drawn" = some (some (.ref f9)))
    (l9 : K.lookup f9 = some ⟨oc9, od9, .func (PySem.W.fnOf "_law_drawn" "_law_drawn" (defArgs s_law_drawn) (defBody s_law_drawn) (defScope s_law_drawn) .none kV9 dc9 pm9 an9 cd9 ct9), sl9⟩)
    (c9 : PySem.W.codeIn K cd9 "_law_drawn" = true)
    (k9 : PySem.W.keepIn K (.ref f9) = true)
    (a10 : PySem.W.nsIn K mainGlobals "_law_passed" = some (some (.ref f10)))
    (l10 : K.lookup f10 = some ⟨oc10, od10, .func (PySem.W.fnOf "_law_passed" "_law_passed" (defArgs s_law_passed) (defBody s_law_passed) (defScope s_law_passed) .none kV10 dc10 pm10 an10 cd10 ct10), sl10⟩)
    (c10 : PySem.W.codeIn K cd10 "_law_passed" = true)
    (k10 : PySem.W.keepIn K (.ref f10) = true)
    (a11 : PySem.W.nsIn K mainGlobals "_law_made" = some (some (.ref f11)))
    (l11 : K.lookup f11 = some ⟨oc11, od11, .func (PySem.W.fnOf "_law_made" "_law_made" (defArgs s_law_made) (defBody s_law_made) (defScope s_law_made) .none kV11 dc11 pm11 an11 cd11 ct11), sl11⟩)
    (c11 : PySem.W.codeIn K cd11 "_law_made" = true)
    (k11 : PySem.W.keepIn K (.ref f11) = true)
    (a12 : PySem.W.nsIn K mainGlobals "_law_spoilt" = some (some (.ref f12)))
    (l12 : K.lookup f12 = some ⟨oc12, od12, .func (PySem.W.fnOf "_law_spoilt" "_law_spoilt" (defArgs s_law_spoilt) (defBody s_law_spoilt) (defScope s_law_spoilt) .none kV12 dc12 pm12 an12 cd12 ct12), sl12⟩)
    (c12 : PySem.W.codeIn K cd12 "_law_spoilt" = true)
    (k12 : PySem.W.keepIn K (.ref f12) = true)
    (a13 : PySem.W.nsIn K mainGlobals "_law_alike" = some (some (.ref f13)))
    (l13 : K.lookup f13 = some ⟨oc13, od13, .func (PySem.W.fnOf "_law_alike" "_law_alike" (defArgs s_law_alike) (defBody s_law_alike) (defScope s_law_alike) .none kV13 dc13 pm13 an13 cd13 ct13), sl13⟩)
    (c13 : PySem.W.codeIn K cd13 "_law_alike" = true)
    (k13 : PySem.W.keepIn K (.ref f13) = true)
    (a14 : PySem.W.nsIn K mainGlobals "_law_holds" = some (some (.ref f14)))
    (l14 : K.lookup f14 = some ⟨oc14, od14, .func (PySem.W.fnOf "_law_holds" "_law_holds" (defArgs s_law_holds) (defBody s_law_holds) (defScope s_law_holds) .none kV14 dc14 pm14 an14 cd14 ct14), sl14⟩)
    (c14 : PySem.W.codeIn K cd14 "_law_holds" = true)
    (k14 : PySem.W.keepIn K (.ref f14) = true)
    (a15 : PySem.W.nsIn K mainGlobals "_law_plain_holds" = some (some (.ref f15)))
    (l15 : K.lookup f15 = some ⟨oc15, od15, .func (PySem.W.fnOf "_law_plain_holds" "_law_plain_holds" (defArgs s_law_plain_holds) (defBody s_law_plain_holds) (defScope s_law_plain_holds) .none kV15 dc15 pm15 an15 cd15 ct15), sl15⟩)
    (c15 : PySem.W.codeIn K cd15 "_law_plain_holds" = true)
    (k15 : PySem.W.keepIn K (.ref f15) = true)
    (a16 : PySem.W.nsIn K mainGlobals "law" = some (some (.ref f16)))
    (l16 : K.lookup f16 = some ⟨oc16, od16, .func (PySem.W.fnOf "law" "law" (defArgs s_law) (defBody s_law) (defScope s_law) .none kV16 dc16 pm16 an16 cd16 ct16), sl16⟩)
    (c16 : PySem.W.codeIn K cd16 "law" = true)
    (k16 : PySem.W.keepIn K (.ref f16) = true)
    (aCS : PySem.W.nsIn K mainGlobals "SquareTable" = some (some (.ref CS)))
    (aCV : PySem.W.nsIn K mainGlobals "Verdict" = some (some (.ref CV)))
    (aCW : PySem.W.nsIn K mainGlobals "Whole" = some (some (.ref CW)))
    (a17 : PySem.W.findIn K (.ref CS) "__init__" = some (some (.ref f17)))
    (i17 : PySem.W.isFn K (.ref f17) = true)
    (l17 : K.lookup f17 = some ⟨oc17, od17, .func (PySem.W.fnOf "__init__" "SquareTable.__init__" (defArgs s_SquareTable_init) (defBody s_SquareTable_init) (defScope s_SquareTable_init) .none (.ref KD17) dc17 pm17 an17 cd17 ct17), sl17⟩)
    (c17 : PySem.W.codeIn K cd17 "SquareTable.__init__" = true)
    (k17 : PySem.W.keepIn K (.ref f17) = true)
    (a18 : PySem.W.findIn K (.ref CS) "__len__" = some (some (.ref f18)))
    (i18 : PySem.W.isFn K (.ref f18) = true)
    (l18 : K.lookup f18 = some ⟨oc18, od18, .func (PySem.W.fnOf "__len__" "SquareTable.__len__" (defArgs s_SquareTable_len) (defBody s_SquareTable_len) (defScope s_SquareTable_len) .none kV18 dc18 pm18 an18 cd18 ct18), sl18⟩)
    (c18 : PySem.W.codeIn K cd18 "SquareTable.__len__" = true)
    (k18 : PySem.W.keepIn K (.ref f18) = true)
    (a19 : PySem.W.findIn K (.ref CS) "__iter__" = some (some (.ref f19)))
    (i19 : PySem.W.isFn K (.ref f19) = true)
    (l19 : K.lookup f19 = some ⟨oc19, od19, .func (PySem.W.fnOf "__iter__" "SquareTable.__iter__" (defArgs s_SquareTable_iter) (defBody s_SquareTable_iter) (defScope s_SquareTable_iter) .none kV19 dc19 pm19 an19 cd19 ct19), sl19⟩)
    (c19 : PySem.W.codeIn K cd19 "SquareTable.__iter__" = true)
    (k19 : PySem.W.keepIn K (.ref f19) = true)
    (a20 : PySem.W.findIn K (.ref CV) "__init__" = some (some (.ref f20)))
    (i20 : PySem.W.isFn K (.ref f20) = true)
    (l20 : K.lookup f20 = some ⟨oc20, od20, .func (PySem.W.fnOf "__init__" "Verdict.__init__" (defArgs s_Verdict_init) (defBody s_Verdict_init) (defScope s_Verdict_init) .none (.ref KD20) dc20 pm20 an20 cd20 ct20), sl20⟩)
    (c20 : PySem.W.codeIn K cd20 "Verdict.__init__" = true)
    (k20 : PySem.W.keepIn K (.ref f20) = true)
    (a21 : PySem.W.findIn K (.ref CW) "__init__" = some (some (.ref f21)))
    (i21 : PySem.W.isFn K (.ref f21) = true)
    (l21 : K.lookup f21 = some ⟨oc21, od21, .func (PySem.W.fnOf "__init__" "Whole.__init__" (defArgs s_Whole_init) (defBody s_Whole_init) (defScope s_Whole_init) .none (.ref KD21) dc21 pm21 an21 cd21 ct21), sl21⟩)
    (c21 : PySem.W.codeIn K cd21 "Whole.__init__" = true)
    (k21 : PySem.W.keepIn K (.ref f21) = true)
    (qS_squares : PySem.W.nsIn K KD17 "squares" = some (some (.ref t1)))
    (tS_squares : K.lookup t1 = some ⟨.type "tuple", tod1, .seq #[] tn1, tsl1⟩)
    (qS_degrees : PySem.W.nsIn K KD17 "degrees" = some (some (.ref t2)))
    (tS_degrees : K.lookup t2 = some ⟨.type "tuple", tod2, .seq #[] tn2, tsl2⟩)
    (qS_rows : PySem.W.nsIn K KD17 "rows" = some (some (.ref t3)))
    (tS_rows : K.lookup t3 = some ⟨.type "tuple", tod3, .seq #[] tn3, tsl3⟩)
    (qS_shown : PySem.W.nsIn K KD17 "shown" = some (some .none))
    (qV_rule : PySem.W.nsIn K KD20 "rule" = some (some .none))
    (qV_written : PySem.W.nsIn K KD20 "written" = some (some .none))
    (qV_tie : PySem.W.nsIn K KD20 "tie" = some (some .none))
    (qV_sides : PySem.W.nsIn K KD20 "sides" = some (some (.ref t4)))
    (tV_sides : K.lookup t4 = some ⟨.type "tuple", tod4, .seq #[] tn4, tsl4⟩)
    (qW_rules : PySem.W.nsIn K KD21 "rules" = some (some (.ref t5)))
    (tW_rules : K.lookup t5 = some ⟨.type "tuple", tod5, .seq #[] tn5, tsl5⟩)
    (qW_quantity : PySem.W.nsIn K KD21 "quantity" = some (some .none))
    (qW_verdict : PySem.W.nsIn K KD21 "verdict" = some (some .none))
    (pgS : PySem.W.plainGet K CS Str.empty = true)
    (hdS : PySem.W.hasDictIn K CS = true)
    (poS : PySem.W.plainOver K CS = true)
    (saS : PySem.W.findIn K (.ref CS) "__setattr__" = some (some (.builtin "object.__setattr__")))
    (mkS : PySem.W.makesIn K CS = true)
    (kcS : PySem.W.keepIn K (.ref CS) = true)
    (nS_word : PySem.W.findIn K (.ref CS) "word" = some none)
    (nS_squares : PySem.W.findIn K (.ref CS) "squares" = some none)
    (nS_degrees : PySem.W.findIn K (.ref CS) "degrees" = some none)
    (nS_rows : PySem.W.findIn K (.ref CS) "rows" = some none)
    (nS_shown : PySem.W.findIn K (.ref CS) "shown" = some none)
    (nS_triples : PySem.W.findIn K (.ref CS) "triples" = some none)
    (pgV : PySem.W.plainGet K CV Str.empty = true)
    (hdV : PySem.W.hasDictIn K CV = true)
    (poV : PySem.W.plainOver K CV = true)
    (saV : PySem.W.findIn K (.ref CV) "__setattr__" = some (some (.builtin "object.__setattr__")))
    (mkV : PySem.W.makesIn K CV = true)
    (kcV : PySem.W.keepIn K (.ref CV) = true)
    (nV_word : PySem.W.findIn K (.ref CV) "word" = some none)
    (nV_rule : PySem.W.findIn K (.ref CV) "rule" = some none)
    (nV_written : PySem.W.findIn K (.ref CV) "written" = some none)
    (nV_tie : PySem.W.findIn K (.ref CV) "tie" = some none)
    (nV_sides : PySem.W.findIn K (.ref CV) "sides" = some none)
    (pgW : PySem.W.plainGet K CW Str.empty = true)
    (hdW : PySem.W.hasDictIn K CW = true)
    (poW : PySem.W.plainOver K CW = true)
    (saW : PySem.W.findIn K (.ref CW) "__setattr__" = some (some (.builtin "object.__setattr__")))
    (mkW : PySem.W.makesIn K CW = true)
    (kcW : PySem.W.keepIn K (.ref CW) = true)
    (nW_word : PySem.W.findIn K (.ref CW) "word" = some none)
    (nW_rules : PySem.W.findIn K (.ref CW) "rules" = some none)
    (nW_quantity : PySem.W.findIn K (.ref CW) "quantity" = some none)
    (nW_verdict : PySem.W.findIn K (.ref CW) "verdict" = some none)
    (z_isinstance : PySem.W.nsIn K mainGlobals "isinstance" = some none)
    (z_list : PySem.W.nsIn K mainGlobals "list" = some none)
    (z_tuple : PySem.W.nsIn K mainGlobals "tuple" = some none)
    (z_int : PySem.W.nsIn K mainGlobals "int" = some none)
    (z_bool : PySem.W.nsIn K mainGlobals "bool" = some none)
    (z_len : PySem.W.nsIn K mainGlobals "len" = some none)
    (z_abs : PySem.W.nsIn K mainGlobals "abs" = some none)
    (z_range : PySem.W.nsIn K mainGlobals "range" = some none)
    (z_repr : PySem.W.nsIn K mainGlobals "repr" = some none)
    (z_zip : PySem.W.nsIn K mainGlobals "zip" = some none)
    (z_iter : PySem.W.nsIn K mainGlobals "iter" = some none)
    : ∃ fd : FuncData, (∀ (s : Shared) (v : Value), BindsTo s fd ⟨[v], []⟩ [("script", v)]) ∧ ∀ base : Heap, K.In base → base.Ns mainGlobals mg → FnG l.prog w K mg base 8 fa fd ["script"] (spLaw K) := by
  have e := hfa.symm.trans (PySem.W.mg_of X G a16)
  cases e
  have T : Bn mg := ⟨PySem.W.mg_none_of X G z_isinstance, PySem.W.mg_none_of X G z_list, PySem.W.mg_none_of X G z_tuple, PySem.W.mg_none_of X G z_int, PySem.W.mg_none_of X G z_bool, PySem.W.mg_none_of X G z_len, PySem.W.mg_none_of X G z_abs, PySem.W.mg_none_of X G z_range, PySem.W.mg_none_of X G z_repr, PySem.W.mg_none_of X G z_zip, PySem.W.mg_none_of X G z_iter⟩
  have F1 := fun_mk (st := s_copied) l1 c1 k1
  have D1 := DefAt.mk (ps := ["value", "depth"]) F1 (PySem.W.mg_of X G a1) (F1.binds (ps := ["value", "depth"]) fun _ _ _ _ _ _ us hl => match us, hl with | [_, _], _ => rfl)
  have F2 := fun_mk (st := s_frozen) l2 c2 k2
  have D2 := DefAt.mk (ps := ["row"]) F2 (PySem.W.mg_of X G a2) (F2.binds (ps := ["row"]) fun _ _ _ _ _ _ us hl => match us, hl with | [_], _ => rfl)
  have F3 := fun_mk (st := s_law_box) l3 c3 k3
  have D3 := DefAt.mk (ps := ["script"]) F3 (PySem.W.mg_of X G a3) (F3.binds (ps := ["script"]) fun _ _ _ _ _ _ us hl => match us, hl with | [_], _ => rfl)
  have F4 := fun_mk (st := s_law_take) l4 c4 k4
  have D4 := DefAt.mk (ps := ["box", "many"]) F4 (PySem.W.mg_of X G a4) (F4.binds (ps := ["box", "many"]) fun _ _ _ _ _ _ us hl => match us, hl with | [_, _], _ => rfl)
  have F5 := fun_mk (st := s_law_is_count) l5 c5 k5
  have D5 := DefAt.mk (ps := ["value"]) F5 (PySem.W.mg_of X G a5) (F5.binds (ps := ["value"]) fun _ _ _ _ _ _ us hl => match us, hl with | [_], _ => rfl)
  have F6 := fun_mk (st := s_law_anything) l6 c6 k6
  have D6 := DefAt.mk (ps := ["box"]) F6 (PySem.W.mg_of X G a6) (F6.binds (ps := ["box"]) fun _ _ _ _ _ _ us hl => match us, hl with | [_], _ => rfl)
  have F7 := fun_mk (st := s_law_row) l7 c7 k7
  have D7 := DefAt.mk (ps := ["box"]) F7 (PySem.W.mg_of X G a7) (F7.binds (ps := ["box"]) fun _ _ _ _ _ _ us hl => match us, hl with | [_], _ => rfl)
  have F8 := fun_mk (st := s_law_kept) l8 c8 k8
  have D8 := DefAt.mk (ps := ["value"]) F8 (PySem.W.mg_of X G a8) (F8.binds (ps := ["value"]) fun _ _ _ _ _ _ us hl => match us, hl with | [_], _ => rfl)
  have F9 := fun_mk (st := s_law_drawn) l9 c9 k9
  have D9 := DefAt.mk (ps := ["box"]) F9 (PySem.W.mg_of X G a9) (F9.binds (ps := ["box"]) fun _ _ _ _ _ _ us hl => match us, hl with | [_], _ => rfl)
  have F10 := fun_mk (st := s_law_passed) l10 c10 k10
  have D10 := DefAt.mk (ps := ["drawn", "key"]) F10 (PySem.W.mg_of X G a10) (F10.binds (ps := ["drawn", "key"]) fun _ _ _ _ _ _ us hl => match us, hl with | [_, _], _ => rfl)
  have F11 := fun_mk (st := s_law_made) l11 c11 k11
  have D11 := DefAt.mk (ps := ["drawn"]) F11 (PySem.W.mg_of X G a11) (F11.binds (ps := ["drawn"]) fun _ _ _ _ _ _ us hl => match us, hl with | [_], _ => rfl)
  have F12 := fun_mk (st := s_law_spoilt) l12 c12 k12
  have D12 := DefAt.mk (ps := ["passed"]) F12 (PySem.W.mg_of X G a12) (F12.binds (ps := ["passed"]) fun _ _ _ _ _ _ us hl => match us, hl with | [_], _ => rfl)
  have F13 := fun_mk (st := s_law_alike) l13 c13 k13
  have D13 := DefAt.mk (ps := ["actual", "due"]) F13 (PySem.W.mg_of X G a13) (F13.binds (ps := ["actual", "due"]) fun _ _ _ _ _ _ us hl => match us, hl with | [_, _], _ => rfl)
  have F14 := fun_mk (st := s_law_holds) l14 c14 k14
  have D14 := DefAt.mk (ps := ["drawn", "shaped", "judged", "whole"]) F14 (PySem.W.mg_of X G a14) (F14.binds (ps := ["drawn", "shaped", "judged", "whole"]) fun _ _ _ _ _ _ us hl => match us, hl with | [_, _, _, _], _ => rfl)
  have F15 := fun_mk (st := s_law_plain_holds) l15 c15 k15
  have D15 := DefAt.mk (ps := ["word", "value"]) F15 (PySem.W.mg_of X G a15) (F15.binds (ps := ["word", "value"]) fun _ _ _ _ _ _ us hl => match us, hl with | [_, _], _ => rfl)
  have F16 := fun_mk (st := s_law) l16 c16 k16
  have D16 := DefAt.mk (ps := ["script"]) F16 (PySem.W.mg_of X G a16) (F16.binds (ps := ["script"]) fun _ _ _ _ _ _ us hl => match us, hl with | [_], _ => rfl)
  have FDS := funD_mk (kws := kwS t1 t2 t3) l17 c17 k17 (fun q hq => by
    simp only [List.mem_cons, List.not_mem_nil, or_false] at hq
    rcases hq with rfl | rfl | rfl | rfl
    · exact ⟨_, qS_squares, rfl⟩
    · exact ⟨_, qS_degrees, rfl⟩
    · exact ⟨_, qS_rows, rfl⟩
    · exact ⟨_, qS_shown, rfl⟩)
  have FDV := funD_mk (kws := kwV t4) l20 c20 k20 (fun q hq => by
    simp only [List.mem_cons, List.not_mem_nil, or_false] at hq
    rcases hq with rfl | rfl | rfl | rfl
    · exact ⟨_, qV_rule, rfl⟩
    · exact ⟨_, qV_written, rfl⟩
    · exact ⟨_, qV_tie, rfl⟩
    · exact ⟨_, qV_sides, rfl⟩)
  have FDW := funD_mk (kws := kwW t5) l21 c21 k21 (fun q hq => by
    simp only [List.mem_cons, List.not_mem_nil, or_false] at hq
    rcases hq with rfl | rfl | rfl
    · exact ⟨_, qW_rules, rfl⟩
    · exact ⟨_, qW_quantity, rfl⟩
    · exact ⟨_, qW_verdict, rfl⟩)
  have E1 : EmpT K t1 := fun H => .inr ⟨_, #[], _, tS_squares, rfl, rfl, by rw [sizeLine_eq]; decide, .nil⟩
  have E2 : EmpT K t2 := fun H => .inr ⟨_, #[], _, tS_degrees, rfl, rfl, by rw [sizeLine_eq]; decide, .nil⟩
  have E3 : EmpT K t3 := fun H => .inr ⟨_, #[], _, tS_rows, rfl, rfl, by rw [sizeLine_eq]; decide, .nil⟩
  have E4 : EmpT K t4 := fun H => .inr ⟨_, #[], _, tV_sides, rfl, rfl, by rw [sizeLine_eq]; decide, .nil⟩
  have E5 : EmpT K t5 := fun H => .inr ⟨_, #[], _, tW_rules, rfl, rfl, by rw [sizeLine_eq]; decide, .nil⟩
  have XS : ShC K CS := ⟨⟨pgS, hdS, poS, saS⟩, nS_word, nS_squares, nS_degrees, nS_rows, nS_shown, nS_triples⟩
  have XV : VeC K CV := ⟨⟨pgV, hdV, poV, saV⟩, nV_word, nV_rule, nV_written, nV_tie, nV_sides⟩
  have XW : WhC K CW := ⟨⟨pgW, hdW, poW, saW⟩, nW_word, nW_rules, nW_quantity, nW_verdict⟩
  have MS : Mk K CS f17 := ⟨mkS, a17, i17, kcS⟩
  have MV : Mk K CV f20 := ⟨mkV, a20, i20, kcV⟩
  have MW : Mk K CW f21 := ⟨mkW, a21, i21, kcW⟩
  have mS := PySem.W.mg_of X G aCS
  have mV := PySem.W.mg_of X G aCV
  have mW := PySem.W.mg_of X G aCW
  have FL := fun_mk (st := s_SquareTable_len) l18 c18 k18
  have LM := LnM.mk FL (FL.binds (ps := ["self"]) fun _ _ _ _ _ _ us hl => match us, hl with | [_], _ => rfl) a18 i18
  have FI := fun_mk (st := s_SquareTable_iter) l19 c19 k19
  have IM := ItM.mk FI (FI.binds (ps := ["self"]) fun _ _ _ _ _ _ us hl => match us, hl with | [_], _ => rfl) a19 i19
  obtain ⟨dsS, vS, bS⟩ := bareS_b FDS
  obtain ⟨gK, kS⟩ := bareS_k FDS
  obtain ⟨dsV, vV, bV⟩ := bareV_b FDV
  obtain ⟨dsW, vW, bW⟩ := bareW_b FDW
  refine ⟨PySem.W.fnOf "law" "law" (defArgs s_law) (defBody s_law) (defScope s_law) .none kV16 dc16 pm16 an16 cd16 ct16, fun s v => .of_eq rfl, fun base _ _ => ?_⟩
  have GS := ok_shape (P := l.prog) (w := w) (base := base) FDS XS D1 D2 T
  have GV := ok_ver (P := l.prog) (w := w) (mg := mg) (base := base) FDV XV T
  have GW := ok_who (P := l.prog) (w := w) (mg := mg) (base := base) FDW XW T
  exact ok_law D16 D3 D9 D6 D11 D14 D12 D15 (ok_box D3 T) (ok_drawn D9 D4 D6 D7 T) (ok_anything D6 D4 T)
    (ok_made D11 D10 ⟨MS, mS, bareS_all FDS⟩ ⟨MV, mV, bareV_all FDV⟩ ⟨MW, mW, bareW_all FDW⟩ GS GV GW T) (ok_holds D14 D13 D5 D8 IM LM XS XV XW T) (ok_spoilt D12 T)
    (ok_plain D15 D13 IM LM XS XV XW MS mS ⟨⟨dsS, t1, t2, t3, bS, vS, E1, E2, E3⟩, ⟨gK, t1, t2, t3, kS, E1, E2, E3⟩⟩ MV mV ⟨⟨dsV, t4, bV, vV, E4⟩⟩ MW mW ⟨⟨dsW, t5, bW, vW, E5⟩⟩ GS GV GW T)
theorem walk {l : PySem.W.OpenLaw} {q : Program} {loose : List Str} {XP : (Str → Option Value) → Heap → Prop} {YP : World → Heap → Prop} {d : DefRec} {K : Params → PySem.W.Frag} (hn : l.most = some 63) (hdf : d.params.defaults = [])
    (hY : ∀ (w : World) (h : Heap), YP w h → (K w.params).In h)
    (F : ∀ (w : World) (mg : Str → Option Value) (fa : Addr) (h : Heap), (K w.params).In h → h.Ns mainGlobals mg → mg d.name = some (.ref fa) →
      ∃ fd : FuncData, (∀ (s : Shared) (u : Value), BindsTo s fd ⟨[u], []⟩ [("script", u)]) ∧ ∀ base : Heap, (K w.params).In base → base.Ns mainGlobals mg → FnG l.prog w (K w.params) mg base 8 fa fd ["script"] (spLaw (K w.params))) :
    PySem.W.WalkO q loose XP YP l.row.toRowW d [] (fun f vs => PySem.call f vs) :=
  walk_ofG (n := 63) (k := 8) (x := "script") (sp := spLaw) hn (by decide) hdf ⟨rfl, by decide, by decide⟩ hY F fun _ _ a ns hl _ hS => ⟨a, ns, rfl, hS, Nat.le_trans hl (by decide), fun _ => rfl⟩
end B7
open PySem PySem.W PyProof.Rows
set_option maxRecDepth 100000 in
set_option maxHeartbeats 0 in
theorem PySem.Challenge.cw_bestwhatever_k77_square_tables_keep_what_holds : PySem.Challenge.rw_bestwhatever_k77_square_tables_keep_what.Holds := by
  w_on; o_law; k_head; (case hw => w_witness2)
  k_fill
  refine B7.walk (l := PySem.Challenge.rw_bestwhatever_k77_square_tables_keep_what) rfl rfl (fun w h Y => PySem.W.kIn_of Y) ?F
  case F =>
    intro w mg fa h KX G hmg
    refine' B7.all_mk KX G hmg ?a1 ?l1 ?c1 ?k1 ?a2 ?l2 ?c2 ?k2 ?a3 ?l3 ?c3 ?k3 ?a4 ?l4 ?c4 ?k4 ?a5 ?l5 ?c5 ?k5 ?a6 ?l6 ?c6 ?k6 ?a7 ?l7 ?c7 ?k7 ?a8 ?l8 ?c8 ?k8 ?a9 ?l9 ?c9 ?k9 ?a10 ?l10 ?c10 ?k10 ?a11 ?l11 ?c11 ?k11 ?a12 ?l12 ?c12 ?k12 ?a13 ?l13 ?c13 ?k13 ?a14 ?l14 ?c14 ?k14 ?a15 ?l15 ?c15 ?k15 ?a16 ?l16 ?c16 ?k16 ?aCS ?aCV ?aCW ?a17 ?i17 ?l17 ?c17 ?k17 ?a18 ?i18 ?l18 ?c18 ?k18 ?a19 ?i19 ?l19 ?c19 ?k19 ?a20 ?i20 ?l20 ?c20 ?k20 ?a21 ?i21 ?l21 ?c21 ?k21 ?qS_squares ?tS_squares ?qS_degrees ?tS_degrees ?qS_rows ?tS_rows ?qS_shown ?qV_rule ?qV_written ?qV_tie ?qV_sides ?tV_sides ?qW_rules ?tW_rules ?qW_quantity ?qW_verdict ?pgS ?hdS ?poS ?saS ?mkS ?kcS ?nS_word ?nS_squares ?nS_degrees ?nS_rows ?nS_shown ?nS_triples ?pgV ?hdV ?poV ?saV ?mkV ?kcV ?nV_word ?nV_rule ?nV_written ?nV_tie ?nV_sides ?pgW ?hdW ?poW ?saW ?mkW ?kcW ?nW_word ?nW_rules ?nW_quantity ?nW_verdict ?z_isinstance ?z_list ?z_tuple ?z_int ?z_bool ?z_len ?z_abs ?z_range ?z_repr ?z_zip ?z_iter
    (case a1 => k_is)
    (case l1 => k_is)
    (case c1 => k_is)
    (case k1 => k_is)
    (case a2 => k_is)
    (case l2 => k_is)
    (case c2 => k_is)
    (case k2 => k_is)
    (case a3 => k_is)
    (case l3 => k_is)
    (case c3 => k_is)
    (case k3 => k_is)
    (case a4 => k_is)
    (case l4 => k_is)
    (case c4 => k_is)
    (case k4 => k_is)
    (case a5 => k_is)
    (case l5 => k_is)
    (case c5 => k_is)
    (case k5 => k_is)
    (case a6 => k_is)
    (case l6 => k_is)
    (case c6 => k_is)
    (case k6 => k_is)
    (case a7 => k_is)
    (case l7 => k_is)
    (case c7 => k_is)
    (case k7 => k_is)
    (case a8 => k_is)
    (case l8 => k_is)
    (case c8 => k_is)
    (case k8 => k_is)
    (case a9 => k_is)
    (case l9 => k_is)
    (case c9 => k_is)
    (case k9 => k_is)
    (case a10 => k_is)
    (case l10 => k_is)
    (case c10 => k_is)
    (case k10 => k_is)
    (case a11 => k_is)
    (case l11 => k_is)
    (case c11 => k_is)
    (case k11 => k_is)
    (case a12 => k_is)
    (case l12 => k_is)
    (case c12 => k_is)
    (case k12 => k_is)
    (case a13 => k_is)
    (case l13 => k_is)
    (case c13 => k_is)
    (case k13 => k_is)
    (case a14 => k_is)
    (case l14 => k_is)
    (case c14 => k_is)
    (case k14 => k_is)
    (case a15 => k_is)
    (case l15 => k_is)
    (case c15 => k_is)
    (case k15 => k_is)
    (case a16 => k_is)
    (case l16 => k_is)
    (case c16 => k_is)
    (case k16 => k_is)
    (case aCS => k_is)
    (case aCV => k_is)
    (case aCW => k_is)
    (case a17 => k_is)
    (case i17 => k_is)
    (case l17 => k_is)
    (case c17 => k_is)
    (case k17 => k_is)
    (case a18 => k_is)
    (case i18 => k_is)
    (case l18 => k_is)
    (case c18 => k_is)
    (case k18 => k_is)
    (case a19 => k_is)
    (case i19 => k_is)
    (case l19 => k_is)
    (case c19 => k_is)
    (case k19 => k_is)
    (case a20 => k_is)
    (case i20 => k_is)
    (case l20 => k_is)
    (case c20 => k_is)
    (case k20 => k_is)
    (case a21 => k_is)
    (case i21 => k_is)
    (case l21 => k_is)
    (case c21 => k_is)
    (case k21 => k_is)
    (case qS_squares => k_is)
    (case tS_squares => k_is)
    (case qS_degrees => k_is)
    (case tS_degrees => k_is)
    (case qS_rows => k_is)
    (case tS_rows => k_is)
    (case qS_shown => k_is)
    (case qV_rule => k_is)
    (case qV_written => k_is)
    (case qV_tie => k_is)
    (case qV_sides => k_is)
    (case tV_sides => k_is)
    (case qW_rules => k_is)
    (case tW_rules => k_is)
    (case qW_quantity => k_is)
    (case qW_verdict => k_is)
    (case pgS => k_is)
    (case hdS => k_is)
    (case poS => k_is)
    (case saS => k_is)
    (case mkS => k_is)
    (case kcS => k_is)
    (case nS_word => k_is)
    (case nS_squares => k_is)
    (case nS_degrees => k_is)
    (case nS_rows => k_is)
    (case nS_shown => k_is)
    (case nS_triples => k_is)
    (case pgV => k_is)
    (case hdV => k_is)
    (case poV => k_is)
    (case saV => k_is)
    (case mkV => k_is)
    (case kcV => k_is)
    (case nV_word => k_is)
    (case nV_rule => k_is)
    (case nV_written => k_is)
    (case nV_tie => k_is)
    (case nV_sides => k_is)
    (case pgW => k_is)
    (case hdW => k_is)
    (case poW => k_is)
    (case saW => k_is)
    (case mkW => k_is)
    (case kcW => k_is)
    (case nW_word => k_is)
    (case nW_rules => k_is)
    (case nW_quantity => k_is)
    (case nW_verdict => k_is)
    (case z_isinstance => k_is)
    (case z_list => k_is)
    (case z_tuple => k_is)
    (case z_int => k_is)
    (case z_bool => k_is)
    (case z_len => k_is)
    (case z_abs => k_is)
    (case z_range => k_is)
    (case z_repr => k_is)
    (case z_zip => k_is)
    (case z_iter => k_is)


