import PyProof.Rows.All
import Wide.All
import OpenK.AllK
import Wide.FinOn
import HandS.ForMost
import HandS.Style
import HandS.Wide
import HandS.Gcd
import HandS.IsInst
import HandS.SortRule
import HandS.TupAny
import HandS.NoneIn
import HandS.Small
import HandS.Codes
import KE.KDictPairs
import PyProof.ReprRoads
import PyProof.Rows.RegFStrParts
import PySem.Challenge.RW_firstterms_k24_whole_levels_signs_and_we
import HandS.More
import HandS.Ends
set_option Elab.async false
set_option linter.all false
set_option maxRecDepth 100000
set_option maxHeartbeats 8000000
/-! K24, part A: own rules over the layer (repr of data, dict of a tuple of pairs, tuples known whole, calls by name, defs that want the guards). -/
namespace K24
open PySem PySem.Spec PyProof.Rows L2

/-! ### the text -/
def topS (i : Nat) : Stmt := PySem.Challenge.pw_firstterms_k24_whole_levels_signs_and_we.main.body.getD i (.Pass ⟨0, 0, 0, 0⟩)

/-! ### promises in one form -/
/-- arguments x laid out by enc; body says what is asked and what comes back -/
def SpF {α : Type} (enc : α → List V) (body : α → Hp → VK → Prop) : Sp := fun vs H Q _ => ∃ x, vs = enc x ∧ body x H Q

section
variable {P : Program} {w : World} {K : PySem.W.Frag} {mg : Str → Option Value} {base : Heap}
theorem okF {α : Type} {enc : α → List V} {body : α → Hp → VK → Prop} {x qual : Str} {st : Stmt} {f : Addr} {fd : FuncData} {N ps : List Str} {k : Nat} (F : Fun K x qual st f fd) (S : FnScope N ps (defScope st)) (hl : ∀ a, (enc a).length = ps.length)
    (hb : ∀ (cdv : Value) (A : Around) (outer : List Env) (s : Shared) (H : Hp) (a : α) (Q : VK) (E : XK), Room k (A.deeper (envOfC qual (defScope st) s.heap.objs.size f cdv)) → body a H Q →
      ∃ t, PSs (cxOf CX0 P w K mg base N qual (defScope st) f cdv A outer s H E).nox (defBody st) t ∧ t { nx := fun _ H' => Q .non H', rt := Q } (start N (enc a)) H) :
    FnOk P w K mg base CX0 (k + 1) f fd ps (SpF enc body) := by
  refine F.ok S (fun vs H Q E h => ?_) (fun cdv A outer s H vs Q E hr h => ?_)
  · obtain ⟨a, rfl, _⟩ := h
    exact hl a
  · obtain ⟨a, rfl, q⟩ := h
    exact hb cdv A outer s H a Q E hr q
end

/-- the module's name x holds a def that keeps the promise sp -/
def Has (P : Program) (w : World) (K : PySem.W.Frag) (mg : Str → Option Value) (base : Heap) (k : Nat) (x : Str) (ps : List Str) (sp : Sp) : Prop :=
  ∃ f fd, FnOk P w K mg base CX0 k f fd ps sp ∧ mg x = some (.ref f) ∧ PySem.W.keepIn K (.ref f) = true ∧ Binds K fd ps []
/-- .. called by keywords alone: gV puts their values in order -/
def HasK (P : Program) (w : World) (K : PySem.W.Frag) (mg : Str → Option Value) (base : Heap) (k : Nat) (x : Str) (ps ks : List Str) (gV : List V → List V → List V) (sp : Sp) : Prop :=
  ∃ f fd g, FnOk P w K mg base CX0 k f fd ps sp ∧ mg x = some (.ref f) ∧ PySem.W.keepIn K (.ref f) = true ∧ KBinds K fd ps ks g gV

section
variable {X : Cx} {k : Nat} {x : Str} {ps ks : List Str} {sp : Sp} {p pos : Pos} {e : Expr} {es : List Expr} {t tk : TA} {kws : List Keyword} {gV : List V → List V → List V}
theorem pe_fn (h : Has X.prog X.w X.K X.mg X.base k x ps sp) (hr : Room k X.A) (hg : Gl X x) (ha : PA X (e :: es) t) (hdb : (x == ("__debug__" : Str)) = false := by decide) (he : starEach (e :: es) X.env = (false, eval e X.env) :: starEach es X.env := by rfl)
    (hpl : (backTo pos (starEach es X.env)).any (·.1) = false := by rfl) : PE X (.Call (.Name x p) (e :: es) [] pos) (tCall sp [] E0 t) :=
  let ⟨_, _, F, hm, hk, hb⟩ := h
  pe_call F hr hg hm hk hb .nil pass0 ha hdb he hpl
/-- f(k = v, ..), no positional argument -/
theorem pe_fnk (h : HasK X.prog X.w X.K X.mg X.base k x ps ks gV sp) (hr : Room k X.A) (hg : Gl X x) (hkw : PK X kws tk) (hall : (backToKw pos (keywordEach kws X.env)).all (·.1.isSome) = true := by rfl) (hks : (backToKw pos (keywordEach kws X.env)).filterMap (·.1) = ks := by rfl)
    (hdb : (x == ("__debug__" : Str)) = false := by decide) (hpl : ((backTo pos (starEach [] X.env)).any (·.1) || (backToKw pos (keywordEach kws X.env)).any (·.1.isNone)) = false := by rfl)
    (hne : kws ≠ [] := by simp) : PE X (.Call (.Name x p) [] kws pos) (fun σ H Q => tk σ H fun zs H2 => sp (gV [] zs) H2 Q E0) := by
  obtain ⟨f, fd, g, F, hm, hk, hb⟩ := h
  refine ⟨fun pins s σ H Q I hq => wpAny_Call_Name_kw (ld_glob I hg hm ?_ hdb)⟩
  refine PySem.W.callWith_KW0 (h₀ := X.base) I.ok.mod.kin hk hall (thn (hkw.run pos pins s σ H _ I hq) fun ws s2 ⟨zs, H2, I2, rz, q2⟩ => ⟨I2.kIn, ?_⟩) hpl
  rw [hks]
  exact run_fnk (us := []) (vs := []) F hr hb pass0 I2 .nil rz q2
end

/-! ### tuples known whole (for dict(t)) -/
section
variable {X : Cx} {es : List Expr} {t : TA} {pos : Pos}
/-- a display of a tuple, known as an object without a dict -/
def tTupF (t : TA) : TE := fun σ H Q => t σ H fun xs H1 => xs.length ≤ sizeLine ∧ ∀ (o : Obj) (p : Addr), o.dict = none → H1 p = none → Q (.ref p) (upd H1 p (.frz o (.tup xs)))
theorem pe_tupF {x1} (h : PA X es t) : PE X (.Tuple es x1 pos) (tTupF t) := by
  refine ⟨fun pins s σ H Q I hq => wpAny_Tuple_spliced (thn (h.run pos pins s σ H _ I hq) fun us s1 ⟨xs, H1, I1, r, z, q⟩ => ?_)⟩
  have free := I1.hok.fresh (Nat.le_refl s1.heap.objs.size)
  have there : (s1.heap.push { cls := .type "tuple", data := .seq us.toArray }).get? s1.heap.objs.size = some { cls := .type "tuple", data := .seq us.toArray } := Heap.get?_push_size _ rfl
  refine ⟨(by rw [← r.length]; exact z), .ref s1.heap.objs.size, _, I1.laid (t' := s1.toks) (o := .frz { cls := .type "tuple", data := .seq us.toArray } (.tup xs)) (fun b u e => Heap.get?_push_of_some _ e) (Nat.le_refl _) ⟨there, z, us, r, _, there, rfl, _, rfl⟩, rfl, q _ _ rfl free⟩
/-- tuple(xs) of a list, likewise -/
theorem call_tupleF : CallR X (.type "tuple") (fun xs H Q => ∃ p ys, xs = [.ref p] ∧ SqL X.K H p ys ∧ ∀ (o : Obj) (l : Addr), o.dict = none → H l = none → Q (.ref l) (upd H l (.frz o (.tup ys)))) := by
  intro pins s σ H xs us Q I r h
  obtain ⟨p, ys, rfl, hq, q⟩ := h
  obtain ⟨u, rfl, rx⟩ := vals1 r
  cases rx
  obtain ⟨its, r', pl, hz⟩ := I.list hq
  have small : its.toArray.size ≤ sizeLine := by
    rw [List.size_toArray, ← r'.length]
    exact hz
  refine call_tuple_list pl.isList (fun h' kp => ?_) (by first | exact small | (have := small; omega))
  have J : Inv X pins σ H { s with heap := h' } := I.kept (t' := s.toks) kp
  have there : (h'.push { cls := .type "tuple", data := .seq its.toArray }).get? h'.objs.size = some { cls := .type "tuple", data := .seq its.toArray } := Heap.get?_push_size _ rfl
  exact ⟨.ref h'.objs.size, _, J.laid (t' := s.toks) (o := .frz { cls := .type "tuple", data := .seq its.toArray } (.tup ys)) (fun b o e => Heap.get?_push_of_some _ e) (Nat.le_refl _) ⟨there, hz, its, r', _, there, rfl, _, rfl⟩, rfl, q _ _ rfl (J.hok.fresh (Nat.le_refl _))⟩

/-- dict(t), t a tuple (known as an object without a dict) of pairs (key, value) -/
theorem call_dictT (hcalm : X.calm = true) : CallR X (.type "dict") (fun xs H Q => ∃ (a : Addr) (o : Obj) (ps : List Addr) (kvs : List (Key × V)), xs = [.ref a] ∧ H a = some (.frz o (.tup (ps.map V.ref))) ∧ o.dict = none ∧
    Paired (fun p kv => SqT X.K H p [kV kv.1, kv.2]) ps kvs ∧ ∀ p, H p = none → Q (.ref p) (upd H p (.dK (mergeK [] kvs)))) := by
  intro pins s σ H xs us Q I r q
  obtain ⟨a, o, ps, kvs, rfl, hq, hd0, hp, q⟩ := q
  obtain ⟨u, rfl, rx⟩ := vals1 r
  cases rx
  obtain ⟨ho, hz, its, rv, o2, ho2, hc, n, hdat⟩ := I.hok a _ hq
  obtain rfl : o = o2 := Option.some.inj (ho.symm.trans ho2)
  have ei := refs_at rv
  subst ei
  rw [List.length_map] at hz
  obtain ⟨prs, rel, hl, hpr⟩ := pairs_of I hp
  -- the keys' own values
  have keyed : ∃ qs : List (Value × Value), qs.length = prs.length ∧ (∀ (j : Nat) (k v : Value), qs[j]? = some (k, v) → ∃ (b : Addr) (kk : Key), ps[j]? = some b ∧ IsTup s.heap b #[k, v] ∧ prs[j]? = some (kk, v) ∧ keyIs kk k = true) := by
    have step : ∀ n, n ≤ prs.length → ∃ qs : List (Value × Value), qs.length = n ∧ (∀ (j : Nat) (k v : Value), qs[j]? = some (k, v) → ∃ (b : Addr) (kk : Key), ps[j]? = some b ∧ IsTup s.heap b #[k, v] ∧ prs[j]? = some (kk, v) ∧ keyIs kk k = true) := by
      intro n
      induction n with
      | zero => exact fun _ => ⟨[], rfl, fun j k v e => by simp at e⟩
      | succ n ih =>
        intro hn
        obtain ⟨qs, l, f⟩ := ih (by omega)
        have hlt : n < prs.length := by omega
        obtain ⟨b, u, e1, e2, e3⟩ := hpr n prs[n] (List.getElem?_eq_getElem hlt)
        refine ⟨qs ++ [(u, prs[n].2)], by simp [l], fun j k v e => ?_⟩
        by_cases hj : j < qs.length
        · rw [List.getElem?_append_left hj] at e
          exact f j k v e
        · have hj2 : j = n := by
            have : j < (qs ++ [(u, prs[n].2)]).length := (List.getElem?_eq_some_iff.mp e).1
            rw [List.length_append, List.length_singleton] at this
            omega
          subst hj2
          rw [List.getElem?_append_right (by omega), l, Nat.sub_self] at e
          have e' : (u, prs[j].2) = (k, v) := Option.some.inj e
          cases e'
          exact ⟨b, prs[j].1, e1, e2, List.getElem?_eq_getElem hlt, e3⟩
    exact step prs.length (Nat.le_refl _)
  obtain ⟨qs, lq, fq⟩ := keyed
  have L : qs.length = ps.length := lq.trans hl
  refine PySem.call_dict_pairs (knd := mixKind X.prog X.w) (kvs := prs) (PairArg.tuple a (ps.map Value.ref).toArray (fun j => ps.getD j 0) qs) (I.ok.hd hcalm) ⟨⟨o, n, ho, hc, hd0, hdat⟩, ?_, fun j k v e => ?_⟩ ⟨lq.symm, fun j k v e => ?_⟩ (by rw [L]; exact hz) fun h' tk hd' kp => ?_
  · rw [List.size_toArray, List.length_map, L]
  · obtain ⟨b, kk, e1, e2, _, _⟩ := fq j k v e
    have eb : ps.getD j 0 = b := by rw [List.getD_eq_getElem?_getD, e1]; rfl
    refine ⟨?_, .inl ?_⟩
    · show (ps.map Value.ref).toArray[j]? = some (.ref (ps.getD j 0))
      rw [eb, List.getElem?_toArray, List.getElem?_map, e1]
      rfl
    · show s.heap.IsTuple (ps.getD j 0) _
      rw [eb]
      exact e2
  · obtain ⟨b, kk, _, _, e3, e4⟩ := fq j k v e
    exact ⟨kk, e3, e4⟩
  · have hm : (s.heap.objs.size == sysModules) = false := beq_eq_false_iff_ne.mpr (Nat.ne_of_gt I.big)
    have short : (mergeK [] kvs).length ≤ sizeLine := by
      refine Nat.le_trans (length_mergeK kvs []) ?_
      rw [List.length_nil, Nat.zero_add, rel.length, hl]
      exact hz
    refine ⟨.ref s.heap.objs.size, _, I.laid (t' := tk) (o := .dK (mergeK [] kvs)) (fun b o e => kp b o (by simp) e) (Nat.le_refl _) ⟨short, hm, merged [] prs, KV.merge rel .nil, hd'⟩, rfl, q _ (I.hok.fresh (Nat.le_refl _))⟩
end

/-! ### repr of data, where no guard stands -/
def Lite (d : PyData) : Prop := d.layable0 = true ∧ d.intsShort 13 = true ∧ d.showable = true
theorem Lite.size {d : PyData} (l : Lite d) : d.shown.length ≤ sizeLine := Nat.le_trans (shown_le13 l.1 l.2.1) (by decide)
theorem Lite.depth {d : PyData} (l : Lite d) : d.depth ≤ 64 := by
  have h : (PyData.canLay0 d && decide (PyData.depth d ≤ 64) && decide (PyData.weight d ≤ 2 ^ 20)) = true := l.1
  simp only [Bool.and_eq_true, decide_eq_true_eq] at h
  exact h.1.2
section
variable {X : Cx}
theorem call_reprD (hg : X.A.guards = some []) (hu : X.A.units + 70 < cLine) : CallR X (.builtin "repr") (fun xs H Q => ∃ (a : Addr) (d : PyData), xs = [.ref a] ∧ Dp X.K H (.ref a) d ∧ Lite d ∧ Q (.str d.shown) H) := by
  intro pins s σ H xs us Q I r h
  obtain ⟨a, d, rfl, hd, l, q⟩ := h
  obtain ⟨u, rfl, rx⟩ := vals1 r
  cases rx
  obtain ⟨as, rd⟩ := Dp.reads I d _ _ hd rfl
  obtain ⟨T, idr, S⟩ := showsBy_of_reads (prog := X.prog) (w := X.w) rd l.2.2 (PyData.noDict_hsm (PyData.hasDict_of_layable l.1)) l.size
  have deep := l.depth
  refine call_repr_slot (by omega) (S.typeIs s fun _ _ e => e) S.slotRepr (S.call X.A.in1 _ s _ hg (by show X.A.units + 1 + d.depth < cLine; omega) (fun _ _ e => e) fun h' u tk kp => ?_)
  exact ⟨_, _, rfl, .str d.shown, H, I.kept kp, ⟨u, rfl⟩, q⟩
end

/-! ### defs that are called where no guard stands -/
structure FnOkG (P : Program) (w : World) (K : PySem.W.Frag) (mg : Str → Option Value) (base : Heap) (k : Nat) (f : Addr) (fd : FuncData) (ps : List Str) (sp : Sp) : Prop where
  arity : ∀ vs H Q E, sp vs H Q E → vs.length = ps.length
  goes : ∀ (A : Around) (outer : List Env) (s : Shared) (H : Hp) (args : Args) (us : List Value) (vs : List V) (Q : VK) (E : XK), A.guards = some [] → Room k A → Env0 P w K mg base A outer s H → BindsTo s fd args (ps.zip us) → Vals vs us → sp vs H Q E →
    codeAny (model P w) A (.call (.ref f) args) (CR CX0 outer P w H s Q E) s
def HasG (P : Program) (w : World) (K : PySem.W.Frag) (mg : Str → Option Value) (base : Heap) (k : Nat) (x : Str) (ps : List Str) (sp : Sp) : Prop :=
  ∃ f fd, FnOkG P w K mg base k f fd ps sp ∧ mg x = some (.ref f) ∧ PySem.W.keepIn K (.ref f) = true ∧ Binds K fd ps []
section
variable {X : Cx} {k : Nat} {x : Str} {ps : List Str} {sp : Sp} {p pos : Pos} {e : Expr} {es : List Expr} {t : TA}
theorem pe_fnG (h : HasG X.prog X.w X.K X.mg X.base k x ps sp) (hgd : X.A.guards = some []) (hr : Room k X.A) (hg : Gl X x) (ha : PA X (e :: es) t) (hdb : (x == ("__debug__" : Str)) = false := by decide) (he : starEach (e :: es) X.env = (false, eval e X.env) :: starEach es X.env := by rfl)
    (hpl : (backTo pos (starEach es X.env)).any (·.1) = false := by rfl) : PE X (.Call (.Name x p) (e :: es) [] pos) (tCall sp [] E0 t) := by
  obtain ⟨f, fd, F, hm, hk, hb⟩ := h
  refine ⟨fun pins s σ H Q I hq => wpAny_Call_Name_kw (ld_glob I hg hm ?_ hdb)⟩
  refine PySem.W.callWith_K (h₀ := X.base) I.ok.mod.kin hk (thn (ha.run pos pins s σ H _ I hq) fun us s1 ⟨vs, H1, I1, r, q⟩ => ⟨I1.kIn, wpAny_call ?_⟩) he hpl
  have q' : sp vs H1 Q E0 := by
    have z : sp (vs ++ []) H1 Q E0 := q
    rwa [List.append_nil] at z
  have hl : us.length = ps.length := r.length.symm.trans (F.arity _ _ _ _ q')
  have bd : BindsTo s1 fd ⟨us, []⟩ (ps.zip us) := by
    have z := hb s1 us I1.kIn (by rw [List.append_nil]; exact hl)
    rwa [List.append_nil] at z
  refine codeAny_mono (F.goes X.A X.stack s1 H1 ⟨us, []⟩ us vs Q E0 hgd hr I1.env0 bd r q') fun res s' hq' => ?_
  cases res with
  | error e => exact False.elim hq'
  | ok fl => cases fl with
    | ret u => exact I1.after hq'
    | next => exact False.elim hq'
    | brk => exact False.elim hq'
    | cont => exact False.elim hq'
end
section
variable {P : Program} {w : World} {K : PySem.W.Frag} {mg : Str → Option Value} {base : Heap}
/-- a def's rule, its body walked where no guard stands -/
theorem okG {α : Type} {enc : α → List V} {body : α → Hp → VK → Prop} {x qual : Str} {st : Stmt} {f : Addr} {fd : FuncData} {N ps : List Str} {k : Nat} (F : Fun K x qual st f fd) (S : FnScope N ps (defScope st)) (hl : ∀ a, (enc a).length = ps.length)
    (hb : ∀ (cdv : Value) (A : Around) (outer : List Env) (s : Shared) (H : Hp) (a : α) (Q : VK) (E : XK), A.guards = some [] → Room k (A.deeper (envOfC qual (defScope st) s.heap.objs.size f cdv)) → body a H Q →
      ∃ t, PSs (cxOf CX0 P w K mg base N qual (defScope st) f cdv A outer s H E).nox (defBody st) t ∧ t { nx := fun _ H' => Q .non H', rt := Q } (start N (enc a)) H) :
    FnOkG P w K mg base (k + 1) f fd ps (SpF enc body) := by
  have ar : ∀ vs H Q E, SpF enc body vs H Q E → vs.length = ps.length := fun vs H Q E h => by
    obtain ⟨a, rfl, _⟩ := h
    exact hl a
  refine ⟨ar, fun A outer s H args us vs Q E hgd hr e0 hbind r hsp => ?_⟩
  obtain ⟨oc, od, kV, doc, pm, an, cdv, ct, osl, rfl, lk, hcd⟩ := F.ex
  have base_in : K.In s.heap := e0.mod.kin.keeps fun b o z => (e0.bs b o z).1
  have no_lim : s.heap.NoLimit := e0.mod.nolimit.keeps fun b o z => (e0.bs b o z).1
  refine codeAny_call_function hr.depth (base_in _ _ lk) rfl S.co S.gen rfl
    (PySem.W.codeRec_of base_in hcd) (hbind _ _ _ _ ?_)
  refine wpAny_newFunctionEnv_cells S.kind (fun y hy => ?_) fun env he s1 x => ?_
  · rcases S.par y.1 (List.of_mem_zip (a := y.1) (b := y.2) hy).1 with z | z
    · exact .inl z
    · exact .inr ⟨z, PySem.W.cellsFrom_some _ _ _ (.inl z)⟩
  subst he
  refine ⟨no_lim.keeps x.toInCall.keep, codeAny_func ?_⟩
  obtain ⟨a, rfl, q⟩ := hsp
  obtain ⟨t, ht, hq⟩ := hb cdv A outer s H a Q E hgd (hr.deeper _) q
  have I := inv_start (CX := CX0) (P := P) (w := w) (mg := mg) (E := E) S hr.hd e0 (hl a) r x
  refine wpAny_mono (ht.nox.run [] s1 _ H _ I hq) (fun fl s' z => ?_) fun _ _ z => z
  cases fl with
  | brk => obtain ⟨_, _, _, no⟩ := z; exact no.elim
  | cont => obtain ⟨_, _, _, no⟩ := z; exact no.elim
  | next =>
    obtain ⟨σ2, H2, J, z⟩ := z
    exact ⟨.non, H2, J.os, J.bare, J.base, J.hok, rfl, z⟩
  | ret u =>
    obtain ⟨v, σ2, H2, J, rv, z⟩ := z
    exact ⟨v, H2, J.os, J.bare, J.base, J.hok, rv, z⟩
end
end K24
/-! K24, part M: the plain mathematics. -/
namespace K24
abbrev Pairs := List (Int × Int)

/-! ### sums over pairs -/
/-- the sum of f d * r -/
def S (f : Int → Int) : Pairs → Int
  | [] => 0
  | q :: r => f q.1 * q.2 + S f r
theorem S_append (f : Int → Int) : ∀ a b : Pairs, S f (a ++ b) = S f a + S f b
  | [], b => by simp [S]
  | q :: r, b => by
    have := S_append f r b
    simp only [List.cons_append, S]
    omega
theorem S_perm (f : Int → Int) {a b : Pairs} (h : a.Perm b) : S f a = S f b := by
  induction h with
  | nil => rfl
  | cons x _ ih => simp only [S, ih]
  | swap x y l => simp only [S]; omega
  | trans _ _ h1 h2 => rw [h1, h2]
theorem S_map_sum (f : Int → Int) : ∀ ps : Pairs, (ps.map fun q => f q.1 * q.2).sum = S f ps
  | [] => rfl
  | q :: r => by simp only [List.map_cons, List.sum_cons, S, S_map_sum f r]
theorem S_congr {f g : Int → Int} : ∀ {ps : Pairs}, (∀ q ∈ ps, f q.1 = g q.1) → S f ps = S g ps
  | [], _ => rfl
  | q :: r, h => by
    simp only [S]
    rw [h q List.mem_cons_self, S_congr fun x hx => h x (List.mem_cons_of_mem _ hx)]
theorem S_neg (f : Int → Int) : ∀ ps : Pairs, S f (ps.map fun q => (q.1, -q.2)) = - S f ps
  | [] => rfl
  | q :: r => by
    simp only [List.map_cons, S, S_neg f r, Int.mul_neg]
    omega
theorem S_mapKey (f g : Int → Int) : ∀ ps : Pairs, S f (ps.map fun q => (g q.1, q.2)) = S (fun d => f (g d)) ps
  | [] => rfl
  | q :: r => by simp only [List.map_cons, S, S_mapKey f g r]
theorem S_reverse (f : Int → Int) (ps : Pairs) : S f ps.reverse = S f ps := S_perm f (List.reverse_perm ps)
theorem S_add (f g : Int → Int) : ∀ ps : Pairs, S (fun d => f d + g d) ps = S f ps + S g ps
  | [] => rfl
  | q :: r => by
    simp only [S, S_add f g r, Int.add_mul]
    omega
theorem S_mul (c : Int) (f : Int → Int) : ∀ ps : Pairs, S (fun d => c * f d) ps = c * S f ps
  | [] => by simp [S]
  | q :: r => by
    simp only [S, S_mul c f r, Int.mul_add, Int.mul_assoc]
theorem S_const (c : Int) (ps : Pairs) : S (fun _ => c) ps = c * S (fun _ => 1) ps := by
  rw [← S_mul]
  simp
abbrev powS (ps : Pairs) : Int := S (fun _ => 1) ps
abbrev stepS (ps : Pairs) : Int := S (fun d => d) ps
theorem S_drop_zero (f : Int → Int) : ∀ ps : Pairs, S f (ps.filter fun q => decide (q.2 ≠ 0)) = S f ps
  | [] => rfl
  | q :: r => by
    by_cases h : q.2 = 0
    · rw [List.filter_cons_of_neg (by simp [h]), S_drop_zero f r]
      simp only [S, h, Int.mul_zero]
      omega
    · rw [List.filter_cons_of_pos (by simp [h])]
      simp only [S, S_drop_zero f r]

/-! ### dicts from ints to ints, in order of insertion -/
def getI (l : Pairs) (d : Int) : Option Int := (l.find? fun q => decide (q.1 = d)).map (·.2)
def putI (l : Pairs) (d v : Int) : Pairs := if (l.any fun q => decide (q.1 = d)) = true then l.map (fun q => if q.1 = d then (q.1, v) else q) else l ++ [(d, v)]
theorem getI_cons (q : Int × Int) (r : Pairs) (d : Int) : getI (q :: r) d = if q.1 = d then some q.2 else getI r d := by
  unfold getI
  rw [List.find?_cons]
  by_cases h : q.1 = d
  · simp [h]
  · simp [h]
theorem getI_none : ∀ {l : Pairs} {d : Int}, getI l d = none → d ∉ l.map (·.1)
  | [], _, _ => by simp
  | q :: r, d, h => by
    rw [getI_cons] at h
    by_cases e : q.1 = d
    · rw [if_pos e] at h; cases h
    · rw [if_neg e] at h
      have ih := getI_none h
      rw [List.map_cons, List.mem_cons]
      rintro (z | z)
      · exact e z.symm
      · exact ih z
theorem getI_mem : ∀ {l : Pairs} {d v : Int}, getI l d = some v → (d, v) ∈ l
  | [], _, _, h => by simp [getI] at h
  | q :: r, d, v, h => by
    rw [getI_cons] at h
    by_cases e : q.1 = d
    · rw [if_pos e] at h
      cases h
      subst e
      exact List.mem_cons_self
    · rw [if_neg e] at h
      exact List.mem_cons_of_mem _ (getI_mem h)
theorem getI_of_mem : ∀ {l : Pairs} {d v : Int}, (l.map (·.1)).Nodup → (d, v) ∈ l → getI l d = some v
  | [], _, _, _, h => by simp at h
  | q :: r, d, v, nd, h => by
    rw [List.map_cons, List.nodup_cons] at nd
    rw [getI_cons]
    rcases List.mem_cons.mp h with e | e
    · subst e; simp
    · have : q.1 ≠ d := fun z => nd.1 (z ▸ List.mem_map.mpr ⟨(d, v), e, rfl⟩)
      rw [if_neg this]
      exact getI_of_mem nd.2 e
theorem any_iff {l : Pairs} {d : Int} : (l.any fun q => decide (q.1 = d)) = (getI l d).isSome := by
  induction l with
  | nil => rfl
  | cons q r ih =>
    rw [getI_cons, List.any_cons, ih]
    by_cases e : q.1 = d <;> simp [e]
theorem putI_old {l : Pairs} {d v w : Int} (h : getI l d = some w) : putI l d v = l.map (fun q => if q.1 = d then (q.1, v) else q) := by
  unfold putI
  rw [any_iff, h]
  rfl
theorem putI_new {l : Pairs} {d v : Int} (h : getI l d = none) : putI l d v = l ++ [(d, v)] := by
  unfold putI
  rw [any_iff, h]
  rfl
theorem keys_putI (l : Pairs) (d v : Int) : (putI l d v).map (·.1) = if (getI l d).isSome then l.map (·.1) else l.map (·.1) ++ [d] := by
  cases h : getI l d with
  | some w =>
    rw [putI_old h, List.map_map]
    simp only [Option.isSome_some, if_true]
    apply List.map_congr_left
    intro q _
    simp only [Function.comp]
    split <;> rfl
  | none => rw [putI_new h]; simp
theorem nodup_putI {l : Pairs} {d v : Int} (h : (l.map (·.1)).Nodup) : ((putI l d v).map (·.1)).Nodup := by
  rw [keys_putI]
  cases e : getI l d with
  | some w => simpa using h
  | none =>
    simp only [Option.isSome_none, Bool.false_eq_true, if_false]
    rw [List.nodup_append]
    refine ⟨h, by simp, fun a ha b hb => ?_⟩
    have : b = d := by simpa using hb
    subst this
    intro z
    subst z
    exact getI_none e ha
theorem getI_snoc {d v k : Int} : ∀ {l : Pairs}, getI l d = none → getI (l ++ [(d, v)]) k = if k = d then some v else getI l k
  | [], _ => by
    rw [List.nil_append, getI_cons]
    by_cases e : k = d
    · subst e; simp
    · rw [if_neg e, if_neg (fun z => e z.symm)]
  | q :: r, hq => by
    rw [getI_cons] at hq
    by_cases e : q.1 = d
    · rw [if_pos e] at hq; cases hq
    · rw [if_neg e] at hq
      rw [List.cons_append, getI_cons, getI_cons, getI_snoc hq]
      by_cases e1 : q.1 = k
      · have : k ≠ d := fun z => e (e1.trans z)
        simp [e1, this]
      · simp [e1]
theorem getI_map {d v k : Int} : ∀ {l : Pairs}, getI (l.map (fun q => if q.1 = d then (q.1, v) else q)) k = (getI l k).map fun w => if k = d then v else w
  | [] => rfl
  | q :: r => by
    rw [List.map_cons, getI_cons, getI_cons, getI_map]
    by_cases e : q.1 = d
    · rw [if_pos e]
      by_cases e1 : q.1 = k
      · have : k = d := e1.symm.trans e
        simp [e1, this]
      · simp [e1]
    · rw [if_neg e]
      by_cases e1 : q.1 = k
      · have : k ≠ d := fun z => e (e1.trans z)
        simp [e1, this]
      · simp [e1]
theorem getI_putI (l : Pairs) (d v k : Int) : getI (putI l d v) k = if k = d then some v else getI l k := by
  cases h : getI l d with
  | none => rw [putI_new h, getI_snoc h]
  | some w =>
    rw [putI_old h, getI_map]
    by_cases e : k = d
    · subst e
      rw [h]
      simp
    · cases getI l k <;> simp [e]
theorem S_putI (f : Int → Int) {l : Pairs} {d r : Int} (nd : (l.map (·.1)).Nodup) : S f (putI l d ((getI l d).getD 0 + r)) = S f l + f d * r := by
  cases h : getI l d with
  | none =>
    rw [putI_new h, S_append]
    simp [S]
  | some w =>
    rw [putI_old h]
    simp only [Option.getD_some]
    induction l with
    | nil => simp [getI] at h
    | cons q t ih =>
      rw [List.map_cons, List.nodup_cons] at nd
      rw [getI_cons] at h
      rw [List.map_cons]
      by_cases e : q.1 = d
      · rw [if_pos e] at h ⊢
        cases h
        have same : t.map (fun q' => if q'.1 = d then (q'.1, q.2 + r) else q') = t := by
          have : ∀ q' ∈ t, (if q'.1 = d then (q'.1, q.2 + r) else q') = q' := fun q' hq' => by
            have : q'.1 ≠ d := fun z => nd.1 (by rw [e, ← z]; exact List.mem_map.mpr ⟨q', hq', rfl⟩)
            rw [if_neg this]
          rw [List.map_congr_left this]
          simp
        rw [same]
        simp only [S, e, Int.mul_add]
        omega
      · rw [if_neg e] at h ⊢
        simp only [S, ih nd.2 h]
        omega
theorem length_putI (l : Pairs) (d v : Int) : (putI l d v).length ≤ l.length + 1 := by
  unfold putI
  split <;> simp

/-! ### ascending lists -/
abbrev Asc (ps : Pairs) : Prop := ps.Pairwise fun a b => a.1 < b.1
theorem Asc.nodup {ps : Pairs} (h : Asc ps) : (ps.map (·.1)).Nodup := by
  rw [List.Nodup, List.pairwise_map]
  exact h.imp fun {a b} z => Int.ne_of_lt z
/-- the coefficient at d -/
def coef (ps : Pairs) (d : Int) : Int := S (fun k => if k = d then 1 else 0) ps
theorem coef_nil (d : Int) : coef [] d = 0 := rfl
theorem coef_cons (q : Int × Int) (r : Pairs) (d : Int) : coef (q :: r) d = (if q.1 = d then q.2 else 0) + coef r d := by
  unfold coef
  simp only [S]
  split <;> simp
theorem coef_out : ∀ {ps : Pairs} {d : Int}, d ∉ ps.map (·.1) → coef ps d = 0
  | [], _, _ => rfl
  | q :: r, d, h => by
    rw [List.map_cons, List.mem_cons] at h
    rw [coef_cons, if_neg (fun z => h (.inl z.symm)), coef_out fun z => h (.inr z)]
    rfl
theorem coef_below {ps : Pairs} {d : Int} (h : ∀ q ∈ ps, d < q.1) : coef ps d = 0 := coef_out fun z => by
  obtain ⟨q, hq, e⟩ := List.mem_map.mp z
  have := h q hq
  omega
/-- ascending lists without 0 are told by their coefficients -/
theorem asc_unique : ∀ {a b : Pairs}, Asc a → Asc b → (∀ q ∈ a, q.2 ≠ 0) → (∀ q ∈ b, q.2 ≠ 0) → (∀ d, coef a d = coef b d) → a = b
  | [], [], _, _, _, _, _ => rfl
  | [], q :: r, _, hb, _, zb, h => by
    have e := h q.1
    rw [coef_nil, coef_cons, if_pos rfl, coef_below (List.pairwise_cons.mp hb).1] at e
    exact absurd (by omega) (zb q List.mem_cons_self)
  | q :: r, [], ha, _, za, _, h => by
    have e := h q.1
    rw [coef_nil, coef_cons, if_pos rfl, coef_below (List.pairwise_cons.mp ha).1] at e
    exact absurd (by omega) (za q List.mem_cons_self)
  | q :: r, q' :: r', ha, hb, za, zb, h => by
    have pa := List.pairwise_cons.mp ha
    have pb := List.pairwise_cons.mp hb
    have z1 := za q List.mem_cons_self
    have z2 := zb q' List.mem_cons_self
    have e1 := h q.1
    have e2 := h q'.1
    rw [coef_cons, coef_cons, if_pos rfl, coef_below pa.1] at e1
    rw [coef_cons, coef_cons, if_pos rfl, coef_below pb.1] at e2
    have key : q.1 = q'.1 := by
      by_cases l : q.1 < q'.1
      · rw [if_neg (by omega), coef_below (fun x hx => by have := pb.1 x hx; omega)] at e1
        omega
      · by_cases g : q'.1 < q.1
        · rw [if_neg (by omega), coef_below (fun x hx => by have := pa.1 x hx; omega)] at e2
          omega
        · omega
    have hd : coef r' q.1 = 0 := coef_below fun x hx => by have := pb.1 x hx; omega
    rw [if_pos key.symm, hd] at e1
    have hq : q = q' := Prod.ext key (by omega)
    subst hq
    have ih := asc_unique pa.2 pb.2 (fun x hx => za x (List.mem_cons_of_mem _ hx)) (fun x hx => zb x (List.mem_cons_of_mem _ hx)) fun d => by
      have := h d
      rw [coef_cons, coef_cons] at this
      omega
    rw [ih]
/-- an ascending list of numbers from 1 to n has at most n items; one of divisors -/
theorem asc_sub {l m : List Int} (hl : l.Pairwise (· < ·)) (hm : m.Pairwise (· < ·)) (h : ∀ x ∈ l, x ∈ m) : l.length ≤ m.length := by
  induction m generalizing l with
  | nil =>
    cases l with
    | nil => simp
    | cons x r => exact absurd (h x List.mem_cons_self) (by simp)
  | cons y m ih =>
    rw [List.pairwise_cons] at hm
    cases l with
    | nil => simp
    | cons x r =>
      rw [List.pairwise_cons] at hl
      have : r.length ≤ m.length := by
        refine ih hl.2 hm.2 fun z hz => ?_
        rcases List.mem_cons.mp (h z (List.mem_cons_of_mem _ hz)) with e | e
        · -- z = y, so x < y is below all
          have hx := hl.1 z hz
          rcases List.mem_cons.mp (h x List.mem_cons_self) with e2 | e2
          · omega
          · have := hm.1 x e2
            omega
        · exact e
      simp only [List.length_cons]
      omega
end K24
/-! K24, part N: primes, signs: runs with fuel, and what they come to, by trying all. -/
namespace K24
def P23 : List Int := [2, 3, 5, 7, 11, 13, 17, 19, 23]
/-! ### runs -/
/-- divide n by p as often as it goes: how often, what is left -/
def dropF : Nat → Int → Int → Option (Nat × Int)
  | 0, _, _ => none
  | f + 1, p, n => if n % p = 0 then (dropF f p (n / p)).map fun x => (x.1 + 1, x.2) else some (0, n)
/-- primes_of -/
def primesF : Nat → Int → Int → Option (List Int)
  | 0, _, _ => none
  | f + 1, n, p => if 1 < n then
      (if n % (if n < p * p then n else p) = 0 then (dropF 9 (if n < p * p then n else p) n).bind fun x => (primesF f x.2 ((if n < p * p then n else p) + 1)).map fun l => (if n < p * p then n else p) :: l
       else primesF f n ((if n < p * p then n else p) + 1))
    else some []
/-- the toggles of raw_sign at one pair -/
def togF : List Int → Int → Option (List Int)
  | [], _ => some []
  | p :: L, n => (dropF 9 p n).bind fun x => (togF L x.2).map fun l => List.replicate x.1 p ++ l
/-- the toggles of the law's sign at one pair -/
def facF : Nat → Int → Int → Option (List Int)
  | 0, _, _ => none
  | f + 1, n, p => if 1 < n then (if n % p = 0 then (facF f (n / p) p).map fun l => p :: l else facF f n (p + 1)) else some []
/-- is_free -/
def freeF : Nat → Int → Int → Option Bool
  | 0, _, _ => none
  | f + 1, n, r => if r * r ≤ n then (if n % (r * r) = 0 then some false else freeF f n (r + 1)) else some true
/-- the inner loop of sign_for -/
def sqF : Nat → Int → Int → Option Int
  | 0, _, _ => none
  | f + 1, q, n => if n % q = 0 then sqF f q (n / q) else some n
/-- sign_for's loops -/
def signF : Nat → Int → Int → Option Int
  | 0, _, _ => none
  | f + 1, n, r => if r * r ≤ (if n < 0 then -n else n) then (sqF 14 (r * r) n).bind fun m => signF f m (r + 1) else some n
def nrm (r : Int) : Int := if r % 4 = 1 then r else 4 * r

/-! ### valuations -/
def valF : Nat → Int → Int → Int
  | 0, _, _ => 0
  | f + 1, p, n => if n % p = 0 then 1 + valF f p (n / p) else 0
def val (p n : Int) : Int := valF 8 p n
def cnt (p : Int) (l : List Int) : Int := (l.filter fun x => decide (x = p)).length
def togOk (l : List Int) (d : Int) : Bool := l.all (fun x => P23.any fun p => decide (x = p)) && P23.all fun p => decide (cnt p l = val p d)
def runOk (d : Int) : Bool := (match primesF 30 d 2 with
  | some L => (L.all fun p => decide (1 < p ∧ p < 200)) && (match togF L d with
    | some l => togOk l d
    | none => false)
  | none => false) && (match facF 60 d 2 with
    | some l => togOk l d
    | none => false)
def upto (n : Nat) : List Int := (List.range n).map fun i => ((i + 1 : Nat) : Int)
theorem mem_upto {n : Nat} {x : Int} (h1 : 1 ≤ x) (h2 : x ≤ n) : x ∈ upto n := by
  refine List.mem_map.mpr ⟨x.toNat - 1, List.mem_range.mpr (by omega), by omega⟩
def PP : Int := 223092870 ^ 7
theorem runs_all : ((upto 144).all fun d => decide (PP % d ≠ 0) || runOk d) = true := by decide +kernel
theorem PP_all : ((upto 24).all fun N => (upto 6).all fun t => decide (PP % (N * t) = 0)) = true := by decide +kernel
theorem val_div_all : ((upto 24).all fun N => (upto 24).all fun d => decide (N % d ≠ 0) || P23.all fun p => decide (val p (N / d) = val p N - val p d) && (decide (N % p = 0) || decide (val p d = 0))) = true := by decide +kernel
theorem val_mul_all : ((upto 6).all fun t => (upto 24).all fun d => P23.all fun p => decide (val p (t * d) = val p t + val p d)) = true := by decide +kernel

/-! ### signs -/
def mQ (l : List Int) (e : Int → Int) : Int := l.foldr (fun p a => (if e p % 2 = 1 then p else 1) * a) 1
def mB : List Int → List Bool → Int
  | p :: l, b :: bs => (if b then p else 1) * mB l bs
  | _, _ => 1
def bools : Nat → List (List Bool)
  | 0 => [[]]
  | n + 1 => (bools n).flatMap fun l => [true :: l, false :: l]
theorem mem_bools : ∀ l : List Bool, l ∈ bools l.length
  | [] => by simp [bools]
  | b :: l => by
    refine List.mem_flatMap.mpr ⟨l, mem_bools l, ?_⟩
    cases b <;> simp
def signOkB (x : Int) : Bool := decide (-400 ≤ x) && decide (x ≤ 400) && decide (x ≠ 0) &&
  ((decide (x % 4 = 1) && decide (freeF 30 (if x < 0 then -x else x) 2 = some true)) ||
   (decide (x % 4 = 0) && (decide (x / 4 % 4 = 2) || decide (x / 4 % 4 = 3)) && decide (freeF 30 (if x / 4 < 0 then -(x / 4) else x / 4) 2 = some true)))
def xorL : List Bool → List Bool → List Bool
  | a :: l, b :: m => (a != b) :: xorL l m
  | _, _ => []
def jn (l : List Int) (s1 s2 : Int) (bs cs : List Bool) : Bool :=
  signOkB (nrm (s1 * mB l bs)) && signOkB (nrm (s2 * mB l cs)) && (match signF 110 (nrm (s1 * mB l bs) * nrm (s2 * mB l cs)) 2 with
    | some r => decide (nrm r = nrm (s1 * s2 * mB l (xorL bs cs)))
    | none => false)
def prs (N : Int) : List Int := P23.filter fun p => decide (N % p = 0)
theorem signs_all : ((upto 24).all fun N => (bools (prs N).length).all fun bs => (bools (prs N).length).all fun cs => [1, -1].all fun s1 => [1, -1].all fun s2 => jn (prs N) s1 s2 bs cs) = true := by decide +kernel
end K24
/-! K24, part O: what the runs say; products over a dict's keys; signs. -/
namespace K24
/-! ### out of the tables -/
def TogOk (l : List Int) (d : Int) : Prop := (∀ x ∈ l, x ∈ P23) ∧ ∀ p ∈ P23, cnt p l = val p d
theorem togOk_iff {l : List Int} {d : Int} (h : togOk l d = true) : TogOk l d := by
  unfold togOk at h
  rw [Bool.and_eq_true] at h
  refine ⟨fun x hx => ?_, fun p hp => ?_⟩
  · have := List.all_eq_true.mp h.1 x hx
    obtain ⟨p, hp, e⟩ := List.any_eq_true.mp this
    rw [of_decide_eq_true e]
    exact hp
  · exact of_decide_eq_true (List.all_eq_true.mp h.2 p hp)
theorem runs_of {d : Int} (h1 : 1 ≤ d) (h2 : d ≤ 144) (h3 : PP % d = 0) :
    (∃ L l, primesF 30 d 2 = some L ∧ (∀ p ∈ L, 1 < p ∧ p < 200) ∧ togF L d = some l ∧ TogOk l d) ∧ ∃ l, facF 60 d 2 = some l ∧ TogOk l d := by
  have h := List.all_eq_true.mp runs_all d (mem_upto h1 h2)
  have h : runOk d = true := by simpa [h3] using h
  unfold runOk at h
  rw [Bool.and_eq_true] at h
  refine ⟨?_, ?_⟩
  · have a := h.1
    cases e : primesF 30 d 2 with
    | none => rw [e] at a; cases a
    | some L =>
      rw [e] at a
      simp only [Bool.and_eq_true] at a
      cases e2 : togF L d with
      | none => rw [e2] at a; exact absurd a.2 (by simp)
      | some l =>
        rw [e2] at a
        exact ⟨L, l, rfl, fun p hp => of_decide_eq_true (List.all_eq_true.mp a.1 p hp), e2, togOk_iff a.2⟩
  · have a := h.2
    cases e : facF 60 d 2 with
    | none => rw [e] at a; cases a
    | some l => rw [e] at a; exact ⟨l, rfl, togOk_iff a⟩
theorem PP_of {N t : Int} (h1 : 1 ≤ N) (h2 : N ≤ 24) (h3 : 1 ≤ t) (h4 : t ≤ 6) : PP % (N * t) = 0 :=
  of_decide_eq_true (List.all_eq_true.mp (List.all_eq_true.mp PP_all N (mem_upto h1 h2)) t (mem_upto h3 h4))
theorem mod_trans {a b c : Int} (h1 : a % b = 0) (h2 : b % c = 0) : a % c = 0 :=
  Int.emod_eq_zero_of_dvd (Int.dvd_trans (Int.dvd_of_emod_eq_zero h2) (Int.dvd_of_emod_eq_zero h1))
theorem val_div {N d p : Int} (h1 : 1 ≤ N) (h2 : N ≤ 24) (h3 : 1 ≤ d) (h4 : N % d = 0) (hp : p ∈ P23) : val p (N / d) = val p N - val p d ∧ (N % p ≠ 0 → val p d = 0) := by
  have hd : d ≤ 24 := Int.le_trans (Int.le_of_dvd (by omega) (Int.dvd_of_emod_eq_zero h4)) h2
  have h := List.all_eq_true.mp (List.all_eq_true.mp val_div_all N (mem_upto h1 h2)) d (mem_upto h3 hd)
  have h : (P23.all fun p => decide (val p (N / d) = val p N - val p d) && (decide (N % p = 0) || decide (val p d = 0))) = true := by simpa [h4] using h
  have h := List.all_eq_true.mp h p hp
  rw [Bool.and_eq_true] at h
  refine ⟨of_decide_eq_true h.1, fun z => ?_⟩
  simpa [z] using h.2
theorem val_mul {t d p : Int} (h1 : 1 ≤ t) (h2 : t ≤ 6) (h3 : 1 ≤ d) (h4 : d ≤ 24) (hp : p ∈ P23) : val p (t * d) = val p t + val p d :=
  of_decide_eq_true (List.all_eq_true.mp (List.all_eq_true.mp (List.all_eq_true.mp val_mul_all t (mem_upto h1 h2)) d (mem_upto h3 h4)) p hp)

/-! ### products -/
def pr (F : Int → Int) (l : List Int) : Int := l.foldr (fun p a => F p * a) 1
theorem pr_perm {F : Int → Int} {l m : List Int} (h : l.Perm m) : pr F l = pr F m := by
  induction h with
  | nil => rfl
  | cons x _ ih =>
    show F x * pr F _ = F x * pr F _
    rw [ih]
  | swap x y l =>
    show F y * (F x * pr F l) = F x * (F y * pr F l)
    rw [← Int.mul_assoc, ← Int.mul_assoc, Int.mul_comm (F y)]
  | trans _ _ h1 h2 => rw [h1, h2]
theorem pr_sub {F : Int → Int} : ∀ {P K : List Int}, P.Nodup → K.Nodup → (∀ x ∈ K, x ∈ P) → (∀ x ∈ P, x ∉ K → F x = 1) → pr F K = pr F P
  | [], K, _, _, h, _ => by
    cases K with
    | nil => rfl
    | cons x r => exact absurd (h x List.mem_cons_self) (by simp)
  | p :: P, K, nP, nK, h, h1 => by
    rw [List.nodup_cons] at nP
    by_cases hp : p ∈ K
    · have e := List.perm_cons_erase hp
      have nK' : (K.erase p).Nodup := nK.erase p
      have ih := pr_sub (F := F) (P := P) (K := K.erase p) nP.2 nK' (fun x hx => by
        have hxK := List.mem_of_mem_erase hx
        have hne : x ≠ p := fun z => by
          subst z
          exact (List.nodup_cons.mp (e.nodup_iff.mp nK)).1 hx
        rcases List.mem_cons.mp (h x hxK) with z | z
        · exact absurd z hne
        · exact z) fun x hx hn => h1 x (List.mem_cons_of_mem _ hx) fun z => hn ((List.mem_erase_of_ne (fun (w : x = p) => nP.1 (w ▸ hx))).mpr z)
      rw [pr_perm e]
      show F p * pr F (K.erase p) = F p * pr F P
      rw [ih]
    · have ih := pr_sub (F := F) (P := P) (K := K) nP.2 nK (fun x hx => by
        rcases List.mem_cons.mp (h x hx) with z | z
        · subst z; exact absurd hx hp
        · exact z) fun x hx hn => h1 x (List.mem_cons_of_mem _ hx) hn
      show pr F K = F p * pr F P
      rw [h1 p List.mem_cons_self hp, ih]
      omega
theorem P23_nodup : P23.Nodup := by decide

/-! ### the dict of toggles -/
structure Met (kvs : Pairs) (e : Int → Int) : Prop where
  nd : (kvs.map (·.1)).Nodup
  ok : ∀ q ∈ kvs, q.1 ∈ P23 ∧ (q.2 = 0 ∨ q.2 = 1)
  at' : ∀ p ∈ P23, (getI kvs p).getD 0 = e p % 2
theorem Met.nil : Met [] fun _ => 0 := ⟨List.nodup_nil, (fun _ h => nomatch h), fun _ _ => rfl⟩
theorem Met.congr {kvs : Pairs} {e e' : Int → Int} (m : Met kvs e) (h : ∀ p ∈ P23, e p % 2 = e' p % 2) : Met kvs e' := ⟨m.nd, m.ok, fun p hp => (m.at' p hp).trans (h p hp)⟩
theorem Met.get01 {kvs : Pairs} {e : Int → Int} (m : Met kvs e) (p : Int) : (getI kvs p).getD 0 = 0 ∨ (getI kvs p).getD 0 = 1 := by
  cases h : getI kvs p with
  | none => exact .inl rfl
  | some v => exact (m.ok _ (getI_mem h)).2
theorem mem_putI {l : Pairs} {d v : Int} {q : Int × Int} (h : q ∈ putI l d v) : q = (d, v) ∨ q ∈ l := by
  cases e : getI l d with
  | none =>
    rw [putI_new e] at h
    rcases List.mem_append.mp h with z | z
    · exact .inr z
    · exact .inl (by simpa using z)
  | some w =>
    rw [putI_old e] at h
    obtain ⟨q', hq', z⟩ := List.mem_map.mp h
    by_cases hd : q'.1 = d
    · rw [if_pos hd] at z
      left
      rw [← z, hd]
    · rw [if_neg hd] at z
      exact .inr (z ▸ hq')
theorem Met.toggle {kvs : Pairs} {e : Int → Int} (m : Met kvs e) {p : Int} (hp : p ∈ P23) : Met (putI kvs p (1 - (getI kvs p).getD 0)) fun q => e q + if q = p then 1 else 0 := by
  refine ⟨nodup_putI m.nd, fun q hq => ?_, fun q hq => ?_⟩
  · rcases mem_putI hq with z | z
    · rw [z]
      refine ⟨hp, ?_⟩
      rcases m.get01 p with a | a <;> rw [a] <;> simp
    · exact m.ok q z
  · rw [getI_putI]
    by_cases z : q = p
    · subst z
      have := m.at' q hq
      simp only [if_true, Option.getD_some]
      omega
    · rw [if_neg z, if_neg z, m.at' q hq]
      simp
theorem Met.length {kvs : Pairs} {e : Int → Int} (m : Met kvs e) : kvs.length ≤ 9 := by
  have key : ∀ (P K : List Int), P.Nodup → K.Nodup → (∀ x ∈ K, x ∈ P) → K.length ≤ P.length := by
    intro P
    induction P with
    | nil =>
      intro K _ _ h
      cases K with
      | nil => simp
      | cons x r => exact absurd (h x List.mem_cons_self) (by simp)
    | cons p P ih =>
      intro K nP nK h
      rw [List.nodup_cons] at nP
      have h2 : (K.erase p).length ≤ P.length := ih _ nP.2 (nK.erase p) fun x hx => by
        have hne : x ≠ p := fun z => by
          subst z
          exact (List.Nodup.not_mem_erase nK) hx
        rcases List.mem_cons.mp (h x (List.mem_of_mem_erase hx)) with z | z
        · exact absurd z hne
        · exact z
      have h3 : K.length ≤ (K.erase p).length + 1 := by
        rw [List.length_erase]
        split <;> omega
      simp only [List.length_cons]
      omega
  have := key P23 (kvs.map (·.1)) P23_nodup m.nd fun x hx => by
    obtain ⟨q, hq, rfl⟩ := List.mem_map.mp hx
    exact (m.ok q hq).1
  rw [List.length_map] at this
  exact this
/-- the factor of a pair of the dict -/
def fac (q : Int × Int) : Int := if q.2 = 1 then q.1 else 1
def facs (l : Pairs) : Int := l.foldr (fun q a => fac q * a) 1
theorem facs_snoc : ∀ (l : Pairs) (q : Int × Int), facs (l ++ [q]) = facs l * fac q
  | [], q => by simp [facs]
  | x :: r, q => by
    show fac x * facs (r ++ [q]) = fac x * facs r * fac q
    rw [facs_snoc r q, Int.mul_assoc]
theorem Met.facs {kvs : Pairs} {e : Int → Int} (m : Met kvs e) : facs kvs = mQ P23 e := by
  have h1 : K24.facs kvs = pr (fun p => if (getI kvs p).getD 0 = 1 then p else 1) (kvs.map (·.1)) := by
    have key : ∀ l : Pairs, (∀ q ∈ l, q ∈ kvs) → K24.facs l = pr (fun p => if (getI kvs p).getD 0 = 1 then p else 1) (l.map (·.1)) := by
      intro l
      induction l with
      | nil => intro _; rfl
      | cons q r ih =>
        intro h
        show fac q * K24.facs r = (if (getI kvs q.1).getD 0 = 1 then q.1 else 1) * pr _ (r.map (·.1))
        rw [ih fun x hx => h x (List.mem_cons_of_mem _ hx), getI_of_mem m.nd (h q List.mem_cons_self)]
        rfl
    exact key kvs fun _ h => h
  rw [h1, pr_sub (P := P23) P23_nodup m.nd (fun x hx => by
    obtain ⟨q, hq, rfl⟩ := List.mem_map.mp hx
    exact (m.ok q hq).1) fun x hx hn => ?_]
  · have key : ∀ l : List Int, (∀ p ∈ l, p ∈ P23) → pr (fun p => if (getI kvs p).getD 0 = 1 then p else 1) l = mQ l e := by
      intro l
      induction l with
      | nil => intro _; rfl
      | cons p r ih =>
        intro h
        show (if (getI kvs p).getD 0 = 1 then p else 1) * pr _ r = (if e p % 2 = 1 then p else 1) * mQ r e
        rw [ih fun x hx => h x (List.mem_cons_of_mem _ hx), m.at' p (h p List.mem_cons_self)]
    exact key P23 fun _ h => h
  · cases z : getI kvs x with
    | none => simp
    | some v => exact absurd (List.mem_map.mpr ⟨_, getI_mem z, rfl⟩) hn
theorem facs_le {l : Pairs} (h : ∀ q ∈ l, q.1 ∈ P23 ∧ (q.2 = 0 ∨ q.2 = 1)) : 1 ≤ facs l ∧ facs l ≤ 23 ^ l.length := by
  induction l with
  | nil => decide
  | cons q r ih =>
    obtain ⟨a, b⟩ := ih fun x hx => h x (List.mem_cons_of_mem _ hx)
    have hq := h q List.mem_cons_self
    have f1 : 1 ≤ fac q ∧ fac q ≤ 23 := by
      unfold fac
      have : 1 ≤ q.1 ∧ q.1 ≤ 23 := by
        have k : ∀ p ∈ P23, 1 ≤ p ∧ p ≤ 23 := by decide
        exact k _ hq.1
      split <;> omega
    show 1 ≤ fac q * facs r ∧ fac q * facs r ≤ 23 ^ (r.length + 1)
    refine ⟨?_, ?_⟩
    · have := Int.mul_le_mul f1.1 a (by omega) (by omega)
      simpa using this
    · have := Int.mul_le_mul f1.2 b (by omega) (by omega)
      rw [Int.pow_succ, Int.mul_comm (23 ^ r.length)]
      exact this

/-! ### signs -/
def epsM (ps : Pairs) : Int := if powS ps / 2 % 2 = 1 then -1 else 1
def eP (ps : Pairs) (p : Int) : Int := S (val p) ps
def signM (ps : Pairs) : Int := nrm (epsM ps * mQ P23 (eP ps))
theorem mQ_congr {e e' : Int → Int} : ∀ {l : List Int}, (∀ p ∈ l, e p % 2 = e' p % 2) → mQ l e = mQ l e'
  | [], _ => rfl
  | p :: r, h => by
    show (if e p % 2 = 1 then p else 1) * mQ r e = (if e' p % 2 = 1 then p else 1) * mQ r e'
    rw [h p List.mem_cons_self, mQ_congr fun x hx => h x (List.mem_cons_of_mem _ hx)]
theorem signM_congr {ps qs : Pairs} (h1 : epsM ps = epsM qs) (h2 : ∀ p ∈ P23, eP ps p % 2 = eP qs p % 2) : signM ps = signM qs := by
  unfold signM
  rw [h1, mQ_congr h2]
theorem mQ_filter {e : Int → Int} {c : Int → Bool} : ∀ {l : List Int}, (∀ p ∈ l, c p = false → e p % 2 ≠ 1) → mQ l e = mQ (l.filter c) e
  | [], _ => rfl
  | p :: r, h => by
    have ih := mQ_filter (e := e) (c := c) (l := r) fun x hx => h x (List.mem_cons_of_mem _ hx)
    cases z : c p with
    | true =>
      rw [List.filter_cons_of_pos z]
      show (if e p % 2 = 1 then p else 1) * mQ r e = (if e p % 2 = 1 then p else 1) * mQ (r.filter c) e
      rw [ih]
    | false =>
      rw [List.filter_cons_of_neg (by simp [z])]
      show (if e p % 2 = 1 then p else 1) * mQ r e = _
      rw [if_neg (h p List.mem_cons_self z), ih]
      omega
theorem mQ_mB {e : Int → Int} : ∀ l : List Int, mQ l e = mB l (l.map fun p => decide (e p % 2 = 1))
  | [] => rfl
  | p :: r => by
    show (if e p % 2 = 1 then p else 1) * mQ r e = (if decide (e p % 2 = 1) then p else 1) * mB r _
    rw [mQ_mB r]
    by_cases h : e p % 2 = 1 <;> simp [h]
theorem xor_map {e e' g : Int → Int} (h : ∀ p, g p = e p + e' p) : ∀ l : List Int, xorL (l.map fun p => decide (e p % 2 = 1)) (l.map fun p => decide (e' p % 2 = 1)) = l.map fun p => decide (g p % 2 = 1)
  | [] => rfl
  | p :: r => by
    show (decide (e p % 2 = 1) != decide (e' p % 2 = 1)) :: xorL _ _ = decide (g p % 2 = 1) :: _
    rw [xor_map h r, h p]
    congr 1
    by_cases a : e p % 2 = 1 <;> by_cases b : e' p % 2 = 1
    · have : ¬ (e p + e' p) % 2 = 1 := by omega
      simp [a, b, this]
    · have : (e p + e' p) % 2 = 1 := by omega
      simp [a, b, this]
    · have : (e p + e' p) % 2 = 1 := by omega
      simp [a, b, this]
    · have : ¬ (e p + e' p) % 2 = 1 := by omega
      simp [a, b, this]
/-- all d divide N -/
def Dv (N : Int) (ps : Pairs) : Prop := ∀ q ∈ ps, 1 ≤ q.1 ∧ N % q.1 = 0
theorem eP_out {N p : Int} {ps : Pairs} (h1 : 1 ≤ N) (h2 : N ≤ 24) (h : Dv N ps) (hp : p ∈ P23) (hn : N % p ≠ 0) : eP ps p = 0 := by
  unfold eP
  rw [S_congr (g := fun _ => 0) fun q hq => (val_div h1 h2 (h q hq).1 (h q hq).2 hp).2 hn, S_const]
  simp
theorem signs_joined {N : Int} {ps qs js : Pairs} (h1 : 1 ≤ N) (h2 : N ≤ 24) (dp : Dv N ps) (dq : Dv N qs) (ep : powS ps % 2 = 0) (eq : powS qs % 2 = 0)
    (hj : ∀ f, S f js = S f ps + S f qs) : signOkB (signM ps) = true ∧ signOkB (signM qs) = true ∧ ∃ r, signF 110 (signM ps * signM qs) 2 = some r ∧ nrm r = signM js := by
  have hP : mQ P23 (eP ps) = mQ (prs N) (eP ps) := mQ_filter fun p hp hc => by
    rw [eP_out h1 h2 dp hp (by simpa using hc)]; decide
  have hQ : mQ P23 (eP qs) = mQ (prs N) (eP qs) := mQ_filter fun p hp hc => by
    rw [eP_out h1 h2 dq hp (by simpa using hc)]; decide
  have sumE : ∀ p, eP js p = eP ps p + eP qs p := fun p => hj (val p)
  have hJ : mQ P23 (eP js) = mQ (prs N) (eP js) := mQ_filter fun p hp hc => by
    rw [sumE, eP_out h1 h2 dp hp (by simpa using hc), eP_out h1 h2 dq hp (by simpa using hc)]; decide
  have hs : epsM js = epsM ps * epsM qs := by
    have := hj (fun _ => 1)
    unfold epsM powS at *
    rw [this]
    split <;> split <;> split <;> omega
  have e1 : ∀ ps : Pairs, epsM ps ∈ [(1 : Int), -1] := fun ps => by
    unfold epsM
    split <;> simp
  have b1 := mem_bools ((prs N).map fun p => decide (eP ps p % 2 = 1))
  have b2 := mem_bools ((prs N).map fun p => decide (eP qs p % 2 = 1))
  rw [List.length_map] at b1 b2
  have h := List.all_eq_true.mp (List.all_eq_true.mp (List.all_eq_true.mp (List.all_eq_true.mp (List.all_eq_true.mp signs_all N (mem_upto h1 h2)) _ b1) _ b2) _ (e1 ps)) _ (e1 qs)
  unfold jn at h
  rw [xor_map sumE, ← mQ_mB, ← mQ_mB, ← mQ_mB, ← hP, ← hQ, ← hJ, ← hs] at h
  rw [Bool.and_eq_true, Bool.and_eq_true] at h
  refine ⟨h.1.1, h.1.2, ?_⟩
  have h3 := h.2
  show ∃ r, signF 110 (nrm (epsM ps * mQ P23 (eP ps)) * nrm (epsM qs * mQ P23 (eP qs))) 2 = some r ∧ nrm r = nrm (epsM js * mQ P23 (eP js))
  cases z : signF 110 (nrm (epsM ps * mQ P23 (eP ps)) * nrm (epsM qs * mQ P23 (eP qs))) 2 with
  | none => rw [z] at h3; cases h3
  | some r =>
    rw [z] at h3
    exact ⟨r, rfl, of_decide_eq_true h3⟩
/-- undone, turned, spread: the same sign -/
theorem sign_undone {ps : Pairs} (ep : powS ps % 2 = 0) : signM (ps.map fun q => (q.1, -q.2)) = signM ps := by
  refine signM_congr ?_ fun p _ => ?_
  · unfold epsM
    have := S_neg (fun _ => 1) ps
    unfold powS at *
    rw [this]
    split <;> split <;> omega
  · unfold eP
    rw [S_neg]
    omega
theorem even_mul {a b : Int} (h : b % 2 = 0) : (a * b) % 2 = 0 := by
  rw [Int.mul_emod, h]
  simp
theorem sign_turned {N : Int} {ps : Pairs} (h1 : 1 ≤ N) (h2 : N ≤ 24) (dp : Dv N ps) (ep : powS ps % 2 = 0) : signM (ps.map fun q => (N / q.1, q.2)).reverse = signM ps := by
  have hp : powS (ps.map fun q => (N / q.1, q.2)).reverse = powS ps := by
    show S _ _ = S _ _
    rw [S_reverse, S_mapKey]
  refine signM_congr ?_ fun p hp' => ?_
  · unfold epsM
    rw [hp]
  · unfold eP
    rw [S_reverse, S_mapKey]
    have : S (fun d => val p (N / d)) ps = S (fun d => val p N + (-1) * val p d) ps := S_congr fun q hq => by
      have := (val_div h1 h2 (dp q hq).1 (dp q hq).2 hp').1
      show val p (N / q.1) = val p N + (-1) * val p q.1
      omega
    rw [this, S_add (fun _ => val p N) (fun d => (-1) * val p d), S_mul, S_const]
    have := even_mul (a := val p N) ep
    unfold powS at this
    omega
theorem sign_spread {N t : Int} {ps : Pairs} (h1 : 1 ≤ N) (h2 : N ≤ 24) (h3 : 1 ≤ t) (h4 : t ≤ 6) (dp : Dv N ps) (ep : powS ps % 2 = 0) : signM (ps.map fun q => (t * q.1, q.2)) = signM ps := by
  have hp : powS (ps.map fun q => (t * q.1, q.2)) = powS ps := by
    show S _ _ = S _ _
    rw [S_mapKey (fun _ => 1) (fun d => t * d)]
  refine signM_congr ?_ fun p hp' => ?_
  · unfold epsM
    rw [hp]
  · unfold eP
    rw [S_mapKey (val p) (fun d => t * d)]
    have : S (fun d => val p (t * d)) ps = S (fun d => val p t + val p d) ps := S_congr fun q hq => by
      have hd : q.1 ≤ N := Int.le_of_dvd (by omega) (Int.dvd_of_emod_eq_zero (dp q hq).2)
      exact val_mul h3 h4 (dp q hq).1 (by omega) hp'
    rw [this, S_add (fun _ => val p t) (fun d => val p d), S_const]
    have := even_mul (a := val p t) ep
    unfold powS at this
    show (val p t * S (fun _ => 1) ps + S (val p) ps) % 2 = S (val p) ps % 2
    omega
end K24
/-! K24, part L: levels, what fits, made products, orders. -/
namespace K24
/-! ### least common multiples -/
def gcI (a b : Int) : Int := ((Nat.gcd a.natAbs b.natAbs : Nat) : Int)
def lcm1 (a b : Int) : Int := a / gcI a b * b
theorem gcI_pos {a b : Int} (h : b ≠ 0 ∨ a ≠ 0) : 0 < gcI a b := by
  unfold gcI
  have : 0 < Nat.gcd a.natAbs b.natAbs := by
    rcases h with h | h
    · exact Nat.gcd_pos_of_pos_right _ (by omega)
    · exact Nat.gcd_pos_of_pos_left _ (by omega)
  omega
theorem lcm1_spec {a b : Int} (ha : 1 ≤ a) (hb : 1 ≤ b) : 1 ≤ lcm1 a b ∧ lcm1 a b % a = 0 ∧ lcm1 a b % b = 0 ∧ ∀ M : Int, M % a = 0 → M % b = 0 → M % lcm1 a b = 0 := by
  obtain ⟨m, rfl⟩ := Int.eq_ofNat_of_zero_le (by omega : 0 ≤ a)
  obtain ⟨n, rfl⟩ := Int.eq_ofNat_of_zero_le (by omega : 0 ≤ b)
  have hm : 0 < m := by omega
  have hn : 0 < n := by omega
  have e : lcm1 (m : Int) (n : Int) = ((Nat.lcm m n : Nat) : Int) := by
    unfold lcm1 gcI
    rw [Int.natAbs_natCast, Int.natAbs_natCast]
    obtain ⟨c, hc⟩ := Nat.gcd_dvd_left m n
    have hg : 0 < Nat.gcd m n := Nat.gcd_pos_of_pos_left _ hm
    have e1 : m / Nat.gcd m n = c := by
      conv => lhs; lhs; rw [hc]
      exact Nat.mul_div_cancel_left _ hg
    have e2 : Nat.lcm m n = c * n := by
      unfold Nat.lcm
      have : m * n = Nat.gcd m n * (c * n) := by rw [← Nat.mul_assoc, ← hc]
      rw [this]
      exact Nat.mul_div_cancel_left _ hg
    rw [e2, ← e1]
    simp
  rw [e]
  have hl : 0 < Nat.lcm m n := Nat.lcm_pos hm hn
  refine ⟨by omega, ?_, ?_, fun M h1 h2 => ?_⟩
  · exact Int.emod_eq_zero_of_dvd (Int.natCast_dvd_natCast.mpr (Nat.dvd_lcm_left m n))
  · exact Int.emod_eq_zero_of_dvd (Int.natCast_dvd_natCast.mpr (Nat.dvd_lcm_right m n))
  · refine Int.emod_eq_zero_of_dvd (Int.ofNat_dvd_left.mpr (Nat.lcm_dvd ?_ ?_))
    · exact Int.ofNat_dvd_left.mp (Int.dvd_of_emod_eq_zero h1)
    · exact Int.ofNat_dvd_left.mp (Int.dvd_of_emod_eq_zero h2)
def lcmF (c : Int) (ps : Pairs) : Int := ps.foldl (fun c q => lcm1 c q.1) c
theorem lcmF_spec : ∀ {ps : Pairs} {c : Int}, 1 ≤ c → (∀ q ∈ ps, 1 ≤ q.1) → 1 ≤ lcmF c ps ∧ lcmF c ps % c = 0 ∧ (∀ q ∈ ps, lcmF c ps % q.1 = 0) ∧ ∀ M : Int, M % c = 0 → (∀ q ∈ ps, M % q.1 = 0) → M % lcmF c ps = 0
  | [], c, hc, _ => ⟨hc, Int.emod_self, (fun _ h => nomatch h), fun _ h _ => h⟩
  | q :: r, c, hc, h => by
    have hq := h q List.mem_cons_self
    obtain ⟨a1, a2, a3, a4⟩ := lcm1_spec hc hq
    obtain ⟨b1, b2, b3, b4⟩ := lcmF_spec (ps := r) a1 fun x hx => h x (List.mem_cons_of_mem _ hx)
    refine ⟨b1, mod_trans b2 a2, fun x hx => ?_, fun M h1 h2 => b4 M (a4 M h1 (h2 q List.mem_cons_self)) fun x hx => h2 x (List.mem_cons_of_mem _ hx)⟩
    rcases List.mem_cons.mp hx with z | z
    · subst z
      exact mod_trans b2 a3
    · exact b3 x z
def com (ps : Pairs) : Int := lcmF 1 ps
def lvl (ps : Pairs) : Int := com ps * (24 / gcI 24 (S (fun d => com ps / d) ps))
theorem com_spec {ps : Pairs} (h : ∀ q ∈ ps, 1 ≤ q.1) : 1 ≤ com ps ∧ (∀ q ∈ ps, com ps % q.1 = 0) ∧ ∀ M : Int, (∀ q ∈ ps, M % q.1 = 0) → M % com ps = 0 := by
  obtain ⟨a, _, b, c⟩ := lcmF_spec (ps := ps) (c := 1) (by decide) h
  exact ⟨a, b, fun M hM => c M (Int.emod_one M) hM⟩
theorem gc24 (s : Int) : 1 ≤ gcI 24 s ∧ 24 % gcI 24 s = 0 ∧ s % gcI 24 s = 0 ∧ gcI 24 s ≤ 24 := by
  have h0 : 0 < gcI 24 s := gcI_pos (.inr (by decide))
  have h1 : gcI 24 s ∣ 24 := by
    unfold gcI
    exact Int.ofNat_dvd_left.mpr (Nat.gcd_dvd_left _ _)
  have h2 : gcI 24 s ∣ s := by
    unfold gcI
    exact Int.ofNat_dvd_left.mpr (Nat.gcd_dvd_right _ _)
  exact ⟨by omega, Int.emod_eq_zero_of_dvd h1, Int.emod_eq_zero_of_dvd h2, Int.le_of_dvd (by decide) h1⟩
theorem div_mul_of {a b : Int} (h : a % b = 0) : b * (a / b) = a := Int.mul_ediv_cancel' (Int.dvd_of_emod_eq_zero h)
theorem mul_div_of {a b c : Int} (hb : 1 ≤ b) (h : a % b = 0) : c * a / b = c * (a / b) := Int.mul_ediv_assoc c (Int.dvd_of_emod_eq_zero h)
/-- c times a level: the quotients -/
theorem S_times {ps : Pairs} {L c : Int} (h : Dv L ps) : S (fun d => c * L / d) ps = c * S (fun d => L / d) ps := by
  rw [← S_mul]
  exact S_congr fun q hq => mul_div_of (h q hq).1 (h q hq).2
theorem fits_mul {ps : Pairs} {L M : Int} (h : Dv L ps) (hs : S (fun d => L / d) ps % 24 = 0) (hM : M % L = 0) : Dv M ps ∧ S (fun d => M / d) ps % 24 = 0 := by
  refine ⟨fun q hq => ⟨(h q hq).1, mod_trans hM (h q hq).2⟩, ?_⟩
  have e : M = M / L * L := by rw [Int.mul_comm]; exact (div_mul_of hM).symm
  have e2 : S (fun d => M / d) ps = M / L * S (fun d => L / d) ps := by
    rw [← S_times h]
    exact S_congr fun q _ => by rw [← e]
  rw [e2, Int.mul_emod, hs]
  simp
theorem lvl_fits {ps : Pairs} (h : ∀ q ∈ ps, 1 ≤ q.1) : 1 ≤ lvl ps ∧ Dv (lvl ps) ps ∧ S (fun d => lvl ps / d) ps % 24 = 0 := by
  obtain ⟨c1, c2, _⟩ := com_spec h
  obtain ⟨g1, g2, g3, _⟩ := gc24 (S (fun d => com ps / d) ps)
  have a1 : 1 ≤ 24 / gcI 24 (S (fun d => com ps / d) ps) := by
    have := div_mul_of g2
    have h0 : 0 ≤ 24 / gcI 24 (S (fun d => com ps / d) ps) := Int.ediv_nonneg (by decide) (by omega)
    have : 24 / gcI 24 (S (fun d => com ps / d) ps) ≠ 0 := fun z => by rw [z] at this; omega
    omega
  have D : Dv (com ps) ps := fun q hq => ⟨h q hq, c2 q hq⟩
  have pos : 1 ≤ lvl ps := by
    have := Int.mul_le_mul c1 a1 (by decide) (by omega)
    unfold lvl
    omega
  refine ⟨pos, fun q hq => ⟨h q hq, ?_⟩, ?_⟩
  · unfold lvl
    rw [Int.mul_comm]
    exact Int.emod_eq_zero_of_dvd (Int.dvd_trans (Int.dvd_of_emod_eq_zero (c2 q hq)) (Int.dvd_mul_left _ _))
  · have e : S (fun d => lvl ps / d) ps = 24 / gcI 24 (S (fun d => com ps / d) ps) * S (fun d => com ps / d) ps := by
      rw [← S_times D]
      exact S_congr fun q _ => by unfold lvl; rw [Int.mul_comm (com ps)]
    rw [e]
    have k := div_mul_of g3
    generalize S (fun d => com ps / d) ps = s at *
    generalize gcI 24 s = g at *
    have k2 := div_mul_of g2
    generalize 24 / g = x at *
    generalize s / g = y at *
    subst k
    have : x * (g * y) = 24 * y := by rw [← k2, ← Int.mul_assoc, Int.mul_comm x g]
    rw [this]
    exact Int.mul_emod_right 24 y
theorem lvl_dvd {ps : Pairs} {M : Int} (h : Dv M ps) (hs : S (fun d => M / d) ps % 24 = 0) : M % lvl ps = 0 := by
  obtain ⟨c1, c2, c3⟩ := com_spec fun q hq => (h q hq).1
  have hc := c3 M fun q hq => (h q hq).2
  have D : Dv (com ps) ps := fun q hq => ⟨(h q hq).1, c2 q hq⟩
  have e : S (fun d => M / d) ps = M / com ps * S (fun d => com ps / d) ps := by
    rw [← S_times D]
    exact S_congr fun q _ => by
      rw [Int.mul_comm, div_mul_of hc]
  rw [e] at hs
  have eM := div_mul_of hc
  unfold lvl
  generalize S (fun d => com ps / d) ps = s at *
  generalize com ps = c at *
  generalize M / c = m at *
  subst eM
  refine Int.emod_eq_zero_of_dvd (Int.mul_dvd_mul (Int.dvd_refl c) ?_)
  -- 24 divides m s
  have h1 : (24 : Nat) ∣ m.natAbs * s.natAbs := by
    have := Int.ofNat_dvd_left.mp (show ((24 : Nat) : Int) ∣ m * s from Int.dvd_of_emod_eq_zero hs)
    rwa [Int.natAbs_mul] at this
  have g0 : 0 < Nat.gcd 24 s.natAbs := Nat.gcd_pos_of_pos_left _ (by decide)
  have h2 : 24 / Nat.gcd 24 s.natAbs ∣ m.natAbs := by
    obtain ⟨a, ha⟩ := Nat.gcd_dvd_left 24 s.natAbs
    obtain ⟨b, hb⟩ := Nat.gcd_dvd_right 24 s.natAbs
    have cop := Nat.coprime_div_gcd_div_gcd g0
    have ea : 24 / Nat.gcd 24 s.natAbs = a := by
      conv => lhs; lhs; rw [ha]
      exact Nat.mul_div_cancel_left _ g0
    have eb : s.natAbs / Nat.gcd 24 s.natAbs = b := by
      conv => lhs; lhs; rw [hb]
      exact Nat.mul_div_cancel_left _ g0
    rw [ea, eb] at cop
    rw [ea]
    have h3 : a ∣ m.natAbs * b := by
      obtain ⟨k, hk⟩ := h1
      refine ⟨k, Nat.eq_of_mul_eq_mul_left g0 ?_⟩
      calc Nat.gcd 24 s.natAbs * (m.natAbs * b) = m.natAbs * (Nat.gcd 24 s.natAbs * b) := by rw [Nat.mul_left_comm]
        _ = m.natAbs * s.natAbs := by rw [← hb]
        _ = 24 * k := hk
        _ = Nat.gcd 24 s.natAbs * a * k := by rw [← ha]
        _ = Nat.gcd 24 s.natAbs * (a * k) := Nat.mul_assoc _ _ _
    exact Nat.Coprime.dvd_of_dvd_mul_right cop h3
  have e24 : (24 : Int) / gcI 24 s = ((24 / Nat.gcd 24 s.natAbs : Nat) : Int) := by
    unfold gcI
    rfl
  rw [e24]
  exact Int.ofNat_dvd_left.mpr h2
theorem com_undone (ps : Pairs) : com (ps.map fun q => (q.1, -q.2)) = com ps := by
  unfold com lcmF
  rw [List.foldl_map]
theorem gcI_neg (a b : Int) : gcI a (-b) = gcI a b := by unfold gcI; rw [Int.natAbs_neg]
theorem lvl_undone (ps : Pairs) : lvl (ps.map fun q => (q.1, -q.2)) = lvl ps := by
  unfold lvl
  rw [com_undone, S_neg, gcI_neg]

/-! ### what fits -/
structure Fit (M : Int) (ps : Pairs) : Prop where
  asc : Asc ps
  dv : Dv M ps
  rr : ∀ q ∈ ps, q.2 ≠ 0 ∧ -48 ≤ q.2 ∧ q.2 ≤ 48
  len : ps.length ≤ 8
  ev : powS ps % 2 = 0
  st : stepS ps % 24 = 0
  tu : S (fun d => M / d) ps % 24 = 0
theorem Fit.lvl_dvd {M : Int} {ps : Pairs} (f : Fit M ps) : M % lvl ps = 0 := K24.lvl_dvd f.dv f.tu
theorem Fit.le {M : Int} {ps : Pairs} (f : Fit M ps) (hM : 1 ≤ M) {q : Int × Int} (hq : q ∈ ps) : q.1 ≤ M := Int.le_of_dvd (by omega) (Int.dvd_of_emod_eq_zero (f.dv q hq).2)
def IsProd (ps : Pairs) : Prop := ps.length ≤ 8 ∧ Asc ps ∧ ∀ q ∈ ps, 1 ≤ q.1 ∧ q.1 ≤ 400 ∧ -48 ≤ q.2 ∧ q.2 ≤ 48 ∧ q.2 ≠ 0
theorem Fit.prod {M : Int} {ps : Pairs} (f : Fit M ps) (h1 : 1 ≤ M) (h2 : M ≤ 400) : IsProd ps := ⟨f.len, f.asc, fun q hq => by
  have := f.le h1 hq
  have := f.rr q hq
  have := (f.dv q hq).1
  omega⟩
theorem neg_mod {a m : Int} (h : a % m = 0) : -a % m = 0 := Int.emod_eq_zero_of_dvd (Int.dvd_neg.mpr (Int.dvd_of_emod_eq_zero h))
theorem Fit.undone {M : Int} {ps : Pairs} (f : Fit M ps) : Fit M (ps.map fun q => (q.1, -q.2)) := by
  refine ⟨?_, fun q hq => ?_, fun q hq => ?_, ?_, ?_, ?_, ?_⟩
  · show List.Pairwise _ _
    rw [List.pairwise_map]
    exact f.asc
  · obtain ⟨x, hx, rfl⟩ := List.mem_map.mp hq
    exact f.dv x hx
  · obtain ⟨x, hx, rfl⟩ := List.mem_map.mp hq
    have := f.rr x hx
    show -x.2 ≠ 0 ∧ -48 ≤ -x.2 ∧ -x.2 ≤ 48
    omega
  · rw [List.length_map]; exact f.len
  · have h := f.ev
    show S _ _ % 2 = 0
    rw [S_neg]
    exact neg_mod h
  · have h := f.st
    show S _ _ % 24 = 0
    rw [S_neg]
    exact neg_mod h
  · have h := f.tu
    rw [S_neg]
    exact neg_mod h
theorem div_lt {N a b : Int} (hN : 1 ≤ N) (ha : 1 ≤ a) (hab : a < b) (h1 : N % a = 0) (h2 : N % b = 0) : N / b < N / a := by
  have e1 := div_mul_of h1
  have e2 := div_mul_of h2
  generalize N / a = x at *
  generalize N / b = y at *
  refine Int.lt_of_not_ge fun h => ?_
  have hy : 1 ≤ y := by
    refine Int.not_lt.mp fun z => ?_
    have : b * y ≤ 0 := Int.mul_nonpos_of_nonneg_of_nonpos (by omega) (by omega)
    omega
  have h3 : a * x ≤ a * y := Int.mul_le_mul_of_nonneg_left h (by omega)
  have h4 : a * y < b * y := Int.mul_lt_mul_of_pos_right hab (by omega)
  omega
theorem div_div_of {N d : Int} (hN : 1 ≤ N) (hd : 1 ≤ d) (h : N % d = 0) : 1 ≤ N / d ∧ N % (N / d) = 0 ∧ N / (N / d) = d := by
  have e := div_mul_of h
  have pos : 1 ≤ N / d := by
    refine Int.not_lt.mp fun z => ?_
    have : d * (N / d) ≤ 0 := Int.mul_nonpos_of_nonneg_of_nonpos (by omega) (by omega)
    omega
  generalize N / d = x at *
  subst e
  refine ⟨pos, ?_, ?_⟩
  · exact Int.mul_emod_left d x
  · exact Int.mul_ediv_cancel d (by omega)
def turn (N : Int) (ps : Pairs) : Pairs := (ps.map fun q => (N / q.1, q.2)).reverse
theorem Fit.turned {N : Int} {ps : Pairs} (hN : 1 ≤ N) (f : Fit N ps) : Fit N (turn N ps) := by
  have mem : ∀ {q}, q ∈ turn N ps → ∃ x ∈ ps, q = (N / x.1, x.2) := fun {q} hq => by
    obtain ⟨x, hx, e⟩ := List.mem_map.mp (List.mem_reverse.mp hq)
    exact ⟨x, hx, e.symm⟩
  have sums : ∀ g : Int → Int, S g (turn N ps) = S (fun d => g (N / d)) ps := fun g => by
    unfold turn
    rw [S_reverse, S_mapKey g (fun d => N / d)]
  refine ⟨?_, fun q hq => ?_, fun q hq => ?_, ?_, ?_, ?_, ?_⟩
  · show List.Pairwise _ _
    unfold turn
    rw [List.pairwise_reverse, List.pairwise_map]
    refine List.Pairwise.imp_of_mem (fun {a b} ha hb h => ?_) f.asc
    exact div_lt hN (f.dv a ha).1 h (f.dv a ha).2 (f.dv b hb).2
  · obtain ⟨x, hx, rfl⟩ := mem hq
    obtain ⟨a, b, _⟩ := div_div_of hN (f.dv x hx).1 (f.dv x hx).2
    exact ⟨a, b⟩
  · obtain ⟨x, hx, rfl⟩ := mem hq
    exact f.rr x hx
  · unfold turn
    rw [List.length_reverse, List.length_map]
    exact f.len
  · show S _ _ % 2 = 0
    rw [sums]
    exact f.ev
  · show S _ _ % 24 = 0
    rw [sums]
    exact f.tu
  · rw [sums, S_congr (g := fun d => d) fun q hq => (div_div_of hN (f.dv q hq).1 (f.dv q hq).2).2.2]
    exact f.st
theorem turn_turn {N : Int} {ps : Pairs} (hN : 1 ≤ N) (f : Fit N ps) : turn N (turn N ps) = ps := by
  unfold turn
  rw [List.map_reverse, List.reverse_reverse, List.map_map]
  have : ∀ q ∈ ps, ((fun q : Int × Int => (N / q.1, q.2)) ∘ fun q => (N / q.1, q.2)) q = q := fun q hq => by
    show (N / (N / q.1), q.2) = q
    rw [(div_div_of hN (f.dv q hq).1 (f.dv q hq).2).2.2]
  rw [List.map_congr_left this]
  simp
def spreadM (t : Int) (ps : Pairs) : Pairs := ps.map fun q => (t * q.1, q.2)
theorem Fit.spread {N t : Int} {ps : Pairs} (hN : 1 ≤ N) (ht : 1 ≤ t) (f : Fit N ps) : Fit (N * t) (spreadM t ps) := by
  have sums : ∀ g : Int → Int, S g (spreadM t ps) = S (fun d => g (t * d)) ps := fun g => by
    unfold spreadM
    rw [S_mapKey g (fun d => t * d)]
  have quot : ∀ q ∈ ps, N * t / (t * q.1) = N / q.1 ∧ (N * t) % (t * q.1) = 0 := fun q hq => by
    rw [Int.mul_comm N t]
    refine ⟨Int.mul_ediv_mul_of_pos _ _ (by omega), ?_⟩
    exact Int.emod_eq_zero_of_dvd (Int.mul_dvd_mul (Int.dvd_refl t) (Int.dvd_of_emod_eq_zero (f.dv q hq).2))
  refine ⟨?_, fun q hq => ?_, fun q hq => ?_, ?_, ?_, ?_, ?_⟩
  · show List.Pairwise _ _
    unfold spreadM
    rw [List.pairwise_map]
    refine f.asc.imp fun {a b} h => ?_
    exact Int.mul_lt_mul_of_pos_left h (by omega)
  · obtain ⟨x, hx, rfl⟩ := List.mem_map.mp hq
    refine ⟨?_, (quot x hx).2⟩
    have := Int.mul_le_mul ht (f.dv x hx).1 (by decide) (by omega)
    show 1 ≤ t * x.1
    omega
  · obtain ⟨x, hx, rfl⟩ := List.mem_map.mp hq
    exact f.rr x hx
  · unfold spreadM
    rw [List.length_map]
    exact f.len
  · show S _ _ % 2 = 0
    rw [sums]
    exact f.ev
  · show S _ _ % 24 = 0
    rw [sums, S_mul t (fun d => d), Int.mul_emod]
    have := f.st
    unfold stepS at this
    rw [this]
    simp
  · rw [sums, S_congr (g := fun d => N / d) fun q hq => (quot q hq).1]
    exact f.tu
theorem step_spread (t : Int) (ps : Pairs) : stepS (spreadM t ps) = t * stepS ps := by
  show S _ _ = _
  unfold spreadM
  rw [S_mapKey (fun d => d) (fun d => t * d), S_mul t (fun d => d)]
theorem pow_spread (t : Int) (ps : Pairs) : powS (spreadM t ps) = powS ps := by
  show S _ _ = _
  unfold spreadM
  rw [S_mapKey (fun _ => 1) (fun d => t * d)]
theorem pow_turn (N : Int) (ps : Pairs) : powS (turn N ps) = powS ps := by
  show S _ _ = _
  unfold turn
  rw [S_reverse, S_mapKey (fun _ => 1) (fun d => N / d)]
theorem step_turn (N : Int) (ps : Pairs) : stepS (turn N ps) = S (fun d => N / d) ps := by
  show S _ _ = _
  unfold turn
  rw [S_reverse, S_mapKey (fun d => d) (fun d => N / d)]

/-! ### joined -/
/-- js is what ps and qs make together -/
structure Joined (ps qs js : Pairs) : Prop where
  asc : Asc js
  nz : ∀ q ∈ js, q.2 ≠ 0
  keys : ∀ q ∈ js, q.1 ∈ ps.map (·.1) ∨ q.1 ∈ qs.map (·.1)
  sums : ∀ f, S f js = S f ps + S f qs
theorem Joined.unique {ps qs a b : Pairs} (x : Joined ps qs a) (y : Joined ps qs b) : a = b := asc_unique x.asc y.asc x.nz y.nz fun d => by
  unfold coef
  rw [x.sums, y.sums]
theorem coef_bound {ps : Pairs} {B : Int} (hB : 0 ≤ B) (a : Asc ps) (h : ∀ q ∈ ps, -B ≤ q.2 ∧ q.2 ≤ B) (d : Int) : -B ≤ coef ps d ∧ coef ps d ≤ B := by
  induction ps with
  | nil => rw [coef_nil]; omega
  | cons q r ih =>
    have p := List.pairwise_cons.mp a
    have ih := ih p.2 fun x hx => h x (List.mem_cons_of_mem _ hx)
    have hq := h q List.mem_cons_self
    rw [coef_cons]
    by_cases e : q.1 = d
    · rw [if_pos e, coef_below fun x hx => e ▸ p.1 x hx]
      omega
    · rw [if_neg e]
      omega
theorem coef_mem {ps : Pairs} (a : Asc ps) {q : Int × Int} (h : q ∈ ps) : coef ps q.1 = q.2 := by
  induction ps with
  | nil => exact nomatch h
  | cons x r ih =>
    have p := List.pairwise_cons.mp a
    rw [coef_cons]
    rcases List.mem_cons.mp h with e | e
    · subst e
      rw [if_pos rfl, coef_below p.1]
      omega
    · have := p.1 q e
      rw [if_neg (by omega), ih p.2 e]
      omega
theorem divs_all : ((upto 24).all fun N => decide (((upto 24).filter fun d => decide (N % d = 0)).length ≤ 8)) = true := by decide +kernel
theorem upto_asc : (upto 24).Pairwise (· < ·) := by decide +kernel
theorem len_of {N : Int} {ps : Pairs} (h1 : 1 ≤ N) (h2 : N ≤ 24) (a : Asc ps) (d : Dv N ps) : ps.length ≤ 8 := by
  have h := of_decide_eq_true (List.all_eq_true.mp divs_all N (mem_upto h1 h2))
  have := asc_sub (l := ps.map (·.1)) (m := (upto 24).filter fun d => decide (N % d = 0)) (by rw [List.pairwise_map]; exact a) (upto_asc.filter _) fun x hx => by
    obtain ⟨q, hq, rfl⟩ := List.mem_map.mp hx
    have := Int.le_of_dvd (by omega) (Int.dvd_of_emod_eq_zero (d q hq).2)
    exact List.mem_filter.mpr ⟨mem_upto (d q hq).1 (by omega), by simpa using (d q hq).2⟩
  rw [List.length_map] at this
  omega
/-- a drawn product -/
structure GoodP (N : Int) (ps : Pairs) : Prop where
  fit : Fit N ps
  small : ∀ q ∈ ps, -24 ≤ q.2 ∧ q.2 ≤ 24
theorem Joined.dv {N : Int} {ps qs js : Pairs} (j : Joined ps qs js) (dp : Dv N ps) (dq : Dv N qs) : Dv N js := fun q hq => by
  rcases j.keys q hq with z | z
  · obtain ⟨x, hx, e⟩ := List.mem_map.mp z
    rw [← e]
    exact dp x hx
  · obtain ⟨x, hx, e⟩ := List.mem_map.mp z
    rw [← e]
    exact dq x hx
theorem Joined.fit {N : Int} {ps qs js : Pairs} (h1 : 1 ≤ N) (h2 : N ≤ 24) (gp : GoodP N ps) (gq : GoodP N qs) (j : Joined ps qs js) : Fit N js := by
  have D := j.dv gp.fit.dv gq.fit.dv
  refine ⟨j.asc, D, fun q hq => ⟨j.nz q hq, ?_⟩, len_of h1 h2 j.asc D, ?_, ?_, ?_⟩
  · have e := coef_mem j.asc hq
    have c : coef js q.1 = coef ps q.1 + coef qs q.1 := j.sums _
    have b1 := coef_bound (by decide : (0 : Int) ≤ 24) gp.fit.asc gp.small q.1
    have b2 := coef_bound (by decide : (0 : Int) ≤ 24) gq.fit.asc gq.small q.1
    omega
  · have := gp.fit.ev
    have := gq.fit.ev
    show S _ _ % 2 = 0
    rw [j.sums]
    unfold powS at *
    omega
  · have := gp.fit.st
    have := gq.fit.st
    show S _ _ % 24 = 0
    rw [j.sums]
    unfold stepS at *
    omega
  · have := gp.fit.tu
    have := gq.fit.tu
    rw [j.sums]
    omega
theorem Joined.level {N : Int} {ps qs js : Pairs} (fp : Fit N ps) (fq : Fit N qs) (j : Joined ps qs js) :
    1 ≤ lvl ps ∧ 1 ≤ lvl qs ∧ 1 ≤ lvl js ∧ lcm1 (lvl ps) (lvl qs) % lvl js = 0 ∧ N % lcm1 (lvl ps) (lvl qs) = 0 ∧ 1 ≤ lcm1 (lvl ps) (lvl qs) := by
  obtain ⟨p1, p2, p3⟩ := lvl_fits fun q hq => (fp.dv q hq).1
  obtain ⟨q1, q2, q3⟩ := lvl_fits fun q hq => (fq.dv q hq).1
  obtain ⟨l1, l2, l3, l4⟩ := lcm1_spec p1 q1
  obtain ⟨a1, a2⟩ := fits_mul p2 p3 l2
  obtain ⟨b1, b2⟩ := fits_mul q2 q3 l3
  have D := j.dv a1 b1
  refine ⟨p1, q1, (lvl_fits fun q hq => (D q hq).1).1, K24.lvl_dvd D ?_, l4 N fp.lvl_dvd fq.lvl_dvd, l1⟩
  rw [j.sums]
  omega

/-! ### orders -/
/-- a fraction a / b that is s / N -/
def Frac (N a b s : Int) : Prop := 0 < b ∧ a * N = b * s
theorem norm_frac {x y : Int} (hy : 0 < y) : 0 < gcI x y ∧ gcI x y ≤ y ∧ 0 < y / gcI x y ∧ y / gcI x y ≤ y ∧ x / gcI x y * y = x * (y / gcI x y) := by
  have g0 : 0 < gcI x y := gcI_pos (.inl (by omega))
  have gx : gcI x y ∣ x := by unfold gcI; exact Int.ofNat_dvd_left.mpr (Nat.gcd_dvd_left _ _)
  have gy : gcI x y ∣ y := by unfold gcI; exact Int.ofNat_dvd_left.mpr (Nat.gcd_dvd_right _ _)
  have ex := Int.mul_ediv_cancel' gx
  have ey := Int.mul_ediv_cancel' gy
  generalize gcI x y = g at *
  generalize x / g = u at *
  generalize y / g = v at *
  subst ex
  subst ey
  have hv : 0 < v := by
    refine Int.lt_of_not_ge fun z => ?_
    have : g * v ≤ 0 := Int.mul_nonpos_of_nonneg_of_nonpos (by omega) z
    omega
  refine ⟨g0, ?_, hv, ?_, ?_⟩
  · have := Int.mul_le_mul_of_nonneg_left (show 1 ≤ v by omega) (show 0 ≤ g by omega)
    omega
  · have := Int.mul_le_mul_of_nonneg_right (show 1 ≤ g by omega) (show 0 ≤ v by omega)
    omega
  · rw [← Int.mul_assoc, Int.mul_comm u g]
/-- adding r / d -/
theorem Frac.add {N a b s r d r' d' : Int} (F : Frac N a b s) (hd : 1 ≤ d) (hN : N % d = 0) (hd' : 0 < d') (e : r' * d = r * d') {a' b' : Int} (hb' : 0 < b') (e2 : a' * (b * d') = (a * d' + r' * b) * b') :
    Frac N a' b' (s + N / d * r) := by
  obtain ⟨hb, h⟩ := F
  refine ⟨hb', ?_⟩
  have eN := div_mul_of hN
  generalize N / d = m at *
  have hy : 0 < b * d' := Int.mul_pos hb hd'
  refine Int.eq_of_mul_eq_mul_right (a := b * d') (by omega) ?_
  calc a' * N * (b * d') = a' * (b * d') * N := by rw [Int.mul_right_comm]
    _ = (a * d' + r' * b) * b' * N := by rw [e2]
    _ = (a * N) * (d' * b') + (r' * d) * (m * b * b') := by
      rw [← eN]
      simp only [Int.add_mul, Int.mul_assoc]
      simp only [Int.mul_comm, Int.mul_left_comm]
    _ = (b * s) * (d' * b') + (r * d') * (m * b * b') := by rw [h, e]
    _ = b' * (s + m * r) * (b * d') := by
      simp only [Int.add_mul, Int.mul_add, Int.mul_assoc]
      simp only [Int.mul_comm, Int.mul_left_comm]
/-- .. times N / 24 -/
theorem Frac.times {N a b s n' m' : Int} (hN : 1 ≤ N) (F : Frac N a b s) (hs : s % 24 = 0) (hm : 0 < m') (e : n' * 24 = N * m') : a * n' = s / 24 * (b * m') := by
  obtain ⟨hb, h⟩ := F
  have es := div_mul_of hs
  generalize s / 24 = k at *
  subst es
  refine Int.eq_of_mul_eq_mul_right (a := 24) (by omega) ?_
  calc a * n' * 24 = a * (n' * 24) := by rw [Int.mul_assoc]
    _ = a * N * m' := by rw [e, Int.mul_assoc]
    _ = b * (24 * k) * m' := by rw [h]
    _ = k * (b * m') * 24 := by
      rw [Int.mul_comm 24 k, ← Int.mul_assoc, Int.mul_right_comm, Int.mul_comm b k, Int.mul_assoc k b m']
theorem norm_whole {k y : Int} (hy : 0 < y) : k * y / gcI (k * y) y = k ∧ y / gcI (k * y) y = 1 := by
  have e : gcI (k * y) y = y := by
    unfold gcI
    rw [Int.natAbs_mul, Nat.gcd_comm, Nat.gcd_mul_left_right]
    omega
  rw [e]
  exact ⟨Int.mul_ediv_cancel k (by omega), Int.ediv_self (by omega)⟩
end K24
/-! K24, part B: heaps, pairs of ints in the heap, loops and comprehensions over them, dicts of ints. -/
namespace K24
open PySem PySem.Spec PyProof.Rows L2

/-! ### what the module's names hold -/
structure Bl (mg : Str → Option Value) : Prop where
  isinstance : mg "isinstance" = none
  int : mg "int" = none
  bool : mg "bool" = none
  tuple : mg "tuple" = none
  list : mg "list" = none
  dict : mg "dict" = none
  abs : mg "abs" = none
  len : mg "len" = none
  sum : mg "sum" = none
  any : mg "any" = none
  all : mg "all" = none
  max : mg "max" = none
  repr : mg "repr" = none
  sorted : mg "sorted" = none
  range : mg "range" = none
  gcd : mg "gcd" = some (.builtin "math.gcd")
  MOST_LEVEL : ∃ t, mg "MOST_LEVEL" = some (.int 400 t)
  MOST_SIGN : ∃ t, mg "MOST_SIGN" = some (.int 400 t)
  MOST_PAIRS : ∃ t, mg "MOST_PAIRS" = some (.int 8 t)
  MOST_STEP : ∃ t, mg "MOST_STEP" = some (.int 400 t)
  MOST_POWER : ∃ t, mg "MOST_POWER" = some (.int 48 t)
theorem pe_globI {X : Cx} {x : Str} {i : Int} {pos : Pos} (hg : Gl X x) (h : ∃ t, X.mg x = some (.int i t)) (hd : (x == ("__debug__" : Str)) = false := by decide) : PE X (.Name x pos) (tC (.int i)) :=
  let ⟨t, e⟩ := h
  pe_glob hg e ⟨t, rfl⟩ hd

/-! ### heaps -/
theorem same_upd {H : Hp} {p : Addr} {o : HO} (h : H p = none) : Same H (upd H p o) := fun b x e => by
  rw [upd_ne (ne_of_none e h)]
  exact e
theorem Same.rd {H H' : Hp} {a : Addr} {u : HO} (e : Same H H') (h : Rd H a u) : Rd H' a u := by
  rcases h with h | ⟨o, h⟩
  · exact .inl (e _ _ h)
  · exact .inr ⟨o, e _ _ h⟩
theorem Same.sqt {K : PySem.W.Frag} {H H' : Hp} {a : Addr} {xs : List V} (e : Same H H') (h : SqT K H a xs) : SqT K H' a xs := by
  rcases h with h | h
  · exact .inl (Same.rd e h)
  · exact .inr h
theorem Paired.len {α β : Type} {R : α → β → Prop} : ∀ {l : List α} {m : List β}, Paired R l m → l.length = m.length
  | _, _, .nil => rfl
  | _, _, .cons _ t => by rw [List.length_cons, List.length_cons, Paired.len t]
theorem Paired.at' {α β : Type} {R : α → β → Prop} : ∀ {l : List α} {m : List β} {i : Nat} {q : β}, Paired R l m → m[i]? = some q → ∃ p, l[i]? = some p ∧ R p q
  | _, _, _, _, .nil, e => by simp at e
  | _, _, 0, _, .cons r _, e => by simp at e; subst e; exact ⟨_, rfl, r⟩
  | _, _, i + 1, q, .cons _ t, e => by
    obtain ⟨p, h1, h2⟩ := Paired.at' (i := i) (q := q) t (by simpa using e)
    exact ⟨p, by simpa using h1, h2⟩
theorem Paired.snoc {α β : Type} {R : α → β → Prop} {x : α} {y : β} (r : R x y) : ∀ {l : List α} {m : List β}, Paired R l m → Paired R (l ++ [x]) (m ++ [y])
  | _, _, .nil => .cons r .nil
  | _, _, .cons q t => .cons q (Paired.snoc r t)

/-! ### pairs of ints -/
def tp (q : Int × Int) : HO := .tup [.int q.1, .int q.2]
/-- the refs as stand at tuples of the pairs ps -/
def Prs (H : Hp) (as : List Addr) (ps : Pairs) : Prop := Paired (fun p q => H p = some (tp q)) as ps
theorem Prs.same {H H' : Hp} {as : List Addr} {ps : Pairs} (e : Same H H') (h : Prs H as ps) : Prs H' as ps := Paired.mapP h fun p q z => e _ _ z
/-- a tuple of pairs -/
def PrT (H : Hp) (a : Addr) (ps : Pairs) : Prop := ∃ as : List Addr, Rd H a (.tup (as.map V.ref)) ∧ Prs H as ps
/-- .. known as an object without a dict -/
def PrD (H : Hp) (a : Addr) (ps : Pairs) : Prop := ∃ (as : List Addr) (o : Obj), H a = some (.frz o (.tup (as.map V.ref))) ∧ o.dict = none ∧ Prs H as ps
/-- a list of pairs -/
def PrL (H : Hp) (a : Addr) (ps : Pairs) : Prop := ∃ as : List Addr, H a = some (.lst (as.map V.ref)) ∧ Prs H as ps
theorem PrD.t {H : Hp} {a : Addr} {ps : Pairs} (h : PrD H a ps) : PrT H a ps := let ⟨as, o, e, _, r⟩ := h; ⟨as, .inr ⟨o, e⟩, r⟩
theorem PrT.same {H H' : Hp} {a : Addr} {ps : Pairs} (e : Same H H') (h : PrT H a ps) : PrT H' a ps := let ⟨as, x, r⟩ := h; ⟨as, Same.rd e x, Prs.same e r⟩
theorem PrD.same {H H' : Hp} {a : Addr} {ps : Pairs} (e : Same H H') (h : PrD H a ps) : PrD H' a ps := let ⟨as, o, x, y, r⟩ := h; ⟨as, o, e _ _ x, y, Prs.same e r⟩
theorem PrL.same {H H' : Hp} {a : Addr} {ps : Pairs} (e : Same H H') (h : PrL H a ps) : PrL H' a ps := let ⟨as, x, r⟩ := h; ⟨as, e _ _ x, Prs.same e r⟩
theorem PrT.sq {K : PySem.W.Frag} {H : Hp} {a : Addr} {ps : Pairs} (h : PrT H a ps) : ∃ xs, SqT K H a xs ∧ xs.length = ps.length := let ⟨as, x, r⟩ := h; ⟨_, .inl x, by rw [List.length_map, Paired.len r]⟩
theorem PrT.sqx {K : PySem.W.Frag} {H : Hp} {a : Addr} {ps : Pairs} (h : PrT H a ps) : ∃ xs, SqT K H a xs := let ⟨xs, h, _⟩ := h.sq; ⟨xs, h⟩
theorem Prs.at' {H : Hp} {as : List Addr} {ps : Pairs} {i : Nat} {q : Int × Int} (h : Prs H as ps) (e : ps[i]? = some q) : ∃ p, as[i]? = some p ∧ H p = some (tp q) := Paired.at' (R := fun p q => H p = some (tp q)) h e

/-- target (d, r) of a pair -/
theorem g_pair {K : PySem.W.Frag} {i j : Nat} {p : Addr} {q : Int × Int} {σ : L2.St} {H : Hp} {Q : L2.St → Hp → Prop} (h : H p = some (tp q)) (hq : Q ((σ.set i (some (.int q.1))).set j (some (.int q.2))) H) : gTup K 2 (gCons (gName i) (gCons (gName j) gNil)) (.ref p) σ H Q :=
  ⟨p, _, rfl, .inl (.inl h), rfl, _, _, rfl, _, _, rfl, rfl, hq⟩

/-- for d, r in t -/
theorem for_pairs {K : PySem.W.Frag} {a : Addr} {ps : Pairs} {x y : Nat} {tb : TS} {D : Ends} {σ : L2.St} {H : Hp} (Pv : Nat → L2.St → Hp → Prop) (h0 : Pv 0 σ H) (hl : ∀ i σ H, Pv i σ H → PrT H a ps)
    (hs : ∀ i q σ H, ps[i]? = some q → Pv i σ H → tb { D with nx := Pv (i + 1), ct := Pv (i + 1), bk := D.nx } ((σ.set x (some (.int q.1))).set y (some (.int q.2))) H) (hd : ∀ σ H, Pv ps.length σ H → D.nx σ H) :
    ∃ W : Nat → Nat → L2.St → Hp → Prop, (∃ m, W 0 m σ H) ∧ ∀ i m σ H, W i m σ H →
      ((Itt K a).stop i H ∧ D.nx σ H) ∨ ((Itt K a).go i H ∧ ∃ N : L2.St → Hp → Prop, (∀ σ' H', N σ' H' → ∃ m', m' < m ∧ W (i + 1) m' σ' H') ∧ ∀ v H', (Itt K a).yld i H v H' → gTup K 2 (gCons (gName x) (gCons (gName y) gNil)) v σ H' fun σ2 H2 => tb { D with nx := N, ct := N, bk := D.nx } σ2 H2) := by
  refine ⟨fun i m σ H => m = ps.length - i ∧ i ≤ ps.length ∧ Pv i σ H, ⟨_, rfl, Nat.zero_le _, h0⟩, ?_⟩
  rintro i m σ H ⟨rfl, hi, p⟩
  obtain ⟨as, ha, hp⟩ := hl i σ H p
  by_cases hlt : i < ps.length
  · obtain ⟨b, eb, hb⟩ := hp.at' (List.getElem?_eq_getElem hlt)
    have eb2 : (as.map V.ref)[i]? = some (.ref b) := by rw [List.getElem?_map, eb]; rfl
    refine .inr ⟨⟨_, _, .inl ha, eb2⟩, Pv (i + 1), fun σ' H' p' => ⟨ps.length - (i + 1), by omega, rfl, hlt, p'⟩, fun v H' y => ?_⟩
    obtain ⟨e, y⟩ := y
    subst e
    obtain rfl : v = .ref b := Option.some.inj ((y _ (.inl ha)).symm.trans eb2)
    exact g_pair hb (hs i _ σ _ (List.getElem?_eq_getElem hlt) p)
  · have e : i = ps.length := by omega
    subst e
    exact .inl ⟨⟨_, .inl ha, by rw [List.length_map, Paired.len hp]; exact Nat.le_refl _⟩, hd σ H p⟩
/-- for d, r in l, a list -/
theorem for_pairsL {K : PySem.W.Frag} {a : Addr} {ps : Pairs} {x y : Nat} {tb : TS} {D : Ends} {σ : L2.St} {H : Hp} (Pv : Nat → L2.St → Hp → Prop) (h0 : Pv 0 σ H) (hl : ∀ i σ H, Pv i σ H → PrL H a ps)
    (hs : ∀ i q σ H, ps[i]? = some q → Pv i σ H → tb { D with nx := Pv (i + 1), ct := Pv (i + 1), bk := D.nx } ((σ.set x (some (.int q.1))).set y (some (.int q.2))) H) (hd : ∀ σ H, Pv ps.length σ H → D.nx σ H) :
    ∃ W : Nat → Nat → L2.St → Hp → Prop, (∃ m, W 0 m σ H) ∧ ∀ i m σ H, W i m σ H →
      ((Itl K a).stop i H ∧ D.nx σ H) ∨ ((Itl K a).go i H ∧ ∃ N : L2.St → Hp → Prop, (∀ σ' H', N σ' H' → ∃ m', m' < m ∧ W (i + 1) m' σ' H') ∧ ∀ v H', (Itl K a).yld i H v H' → gTup K 2 (gCons (gName x) (gCons (gName y) gNil)) v σ H' fun σ2 H2 => tb { D with nx := N, ct := N, bk := D.nx } σ2 H2) := by
  refine ⟨fun i m σ H => m = ps.length - i ∧ i ≤ ps.length ∧ Pv i σ H, ⟨_, rfl, Nat.zero_le _, h0⟩, ?_⟩
  rintro i m σ H ⟨rfl, hi, p⟩
  obtain ⟨as, ha, hp⟩ := hl i σ H p
  by_cases hlt : i < ps.length
  · obtain ⟨b, eb, hb⟩ := hp.at' (List.getElem?_eq_getElem hlt)
    have eb2 : (as.map V.ref)[i]? = some (.ref b) := by rw [List.getElem?_map, eb]; rfl
    refine .inr ⟨⟨_, _, SqL.of ha, eb2⟩, Pv (i + 1), fun σ' H' p' => ⟨ps.length - (i + 1), by omega, rfl, hlt, p'⟩, fun v H' y => ?_⟩
    obtain ⟨e, y⟩ := y
    subst e
    obtain rfl : v = .ref b := Option.some.inj ((y _ (SqL.of ha)).symm.trans eb2)
    exact g_pair hb (hs i _ σ _ (List.getElem?_eq_getElem hlt) p)
  · have e : i = ps.length := by omega
    subst e
    exact .inl ⟨⟨_, SqL.of ha, by rw [List.length_map, Paired.len hp]; exact Nat.le_refl _⟩, hd σ H p⟩

/-- the turn of a comprehension over pairs, any element -/
theorem lc_prs {σ : L2.St} {vs : List Nat} {x y : Nat} {te : TE} {D : Addr} {Nx : Hp → Prop} {K : PySem.W.Frag} {p : Addr} {q : Int × Int} {H : Hp} (hw : ∀ d r, wipe (((wipe σ vs).set x (some d)).set y (some r)) vs = wipe σ vs) (hp : H p = some (tp q))
    (he : te (((wipe σ vs).set x (some (.int q.1))).set y (some (.int q.2))) H fun v H4 => ∃ acc, H4 D = some (.lst acc) ∧ acc.length < sizeLine ∧ Nx (upd H4 D (.lst (acc ++ [v])))) :
    gTup K 2 (gCons (gName x) (gCons (gName y) gNil)) (.ref p) (wipe σ vs) H fun σ2 H2 => wipe σ2 vs = wipe σ vs ∧ tYes σ2 H2 fun b H3 => if b = true then te σ2 H3 fun v H4 => ∃ acc, H4 D = some (.lst acc) ∧ acc.length < sizeLine ∧ Nx (upd H4 D (.lst (acc ++ [v]))) else Nx H3 :=
  g_pair hp ⟨hw _ _, he⟩
/-- [e for d, r in t], e without effect -/
theorem lc_pairs {K : PySem.W.Frag} {a : Addr} {ps : Pairs} {x y : Nat} {te : TE} {vs : List Nat} {σ : L2.St} {H : Hp} {Qd : Hp → Prop} {D : Addr} (hD : H D = none) (f : Int × Int → V) (hp : PrT H a ps) (hl : ps.length ≤ 1000)
    (hw : ∀ d r, wipe (((wipe σ vs).set x (some d)).set y (some r)) vs = wipe σ vs)
    (he : ∀ q ∈ ps, ∀ H' R, Same H H' → R (f q) H' → te (((wipe σ vs).set x (some (.int q.1))).set y (some (.int q.2))) H' R) (hq : ∀ H', Same H H' → H' D = some (.lst (ps.map f)) → Qd H') :
    ∃ W : Nat → Nat → Hp → Prop, (∃ m, W 0 m (upd H D (.lst []))) ∧ ∀ i m H, W i m H →
      ((Itt K a).stop i H ∧ Qd H) ∨ ((Itt K a).go i H ∧ ∃ Nx : Hp → Prop, (∀ H', Nx H' → ∃ m', m' < m ∧ W (i + 1) m' H') ∧ ∀ v H', (Itt K a).yld i H v H' → gTup K 2 (gCons (gName x) (gCons (gName y) gNil)) v (wipe σ vs) H' fun σ2 H2 => wipe σ2 vs = wipe σ vs ∧ tYes σ2 H2 fun b H3 =>
        if b = true then te σ2 H3 fun y H4 => ∃ acc, H4 D = some (.lst acc) ∧ acc.length < sizeLine ∧ Nx (upd H4 D (.lst (acc ++ [y]))) else Nx H3) := by
  obtain ⟨as, ha, hps⟩ := hp
  have hlen := Paired.len hps
  refine ⟨fun i m H' => m = ps.length - i ∧ i ≤ ps.length ∧ Same H H' ∧ H' D = some (.lst ((ps.take i).map f)), ⟨_, rfl, Nat.zero_le _, same_upd hD, upd_same⟩, ?_⟩
  rintro i m H' ⟨rfl, hi, sm, hd⟩
  by_cases hlt : i < ps.length
  · obtain ⟨b, eb, hb⟩ := hps.at' (List.getElem?_eq_getElem hlt)
    have eb2 : (as.map V.ref)[i]? = some (.ref b) := by rw [List.getElem?_map, eb]; rfl
    refine .inr ⟨⟨_, _, .inl (Same.rd sm ha), eb2⟩, fun H' => Same H H' ∧ H' D = some (.lst ((ps.take (i + 1)).map f)), fun H2 ⟨s2, d2⟩ => ⟨ps.length - (i + 1), by omega, rfl, hlt, s2, d2⟩, fun v H2 y => ?_⟩
    obtain ⟨e, y⟩ := y
    subst e
    obtain rfl : v = .ref b := Option.some.inj ((y _ (.inl (Same.rd sm ha))).symm.trans eb2)
    refine lc_prs hw (sm _ _ hb) (he _ (List.getElem_mem hlt) _ _ sm ⟨_, hd, ?_, fun b o e => ?_, ?_⟩)
    · rw [List.length_map, List.length_take]
      exact small1000 (by omega)
    · rw [upd_ne (ne_of_none e hD)]
      exact sm _ _ e
    · rw [upd_same, List.take_add_one, List.getElem?_eq_getElem hlt, List.map_append]
      rfl
  · have e : i = ps.length := by omega
    subst e
    refine .inl ⟨⟨_, .inl (Same.rd sm ha), by rw [List.length_map, hlen]; exact Nat.le_refl _⟩, hq _ sm ?_⟩
    rw [List.take_length] at hd
    exact hd
/-- [e for d, r in l], l a list, e without effect -/
theorem lc_pairsL {K : PySem.W.Frag} {a : Addr} {ps : Pairs} {x y : Nat} {te : TE} {vs : List Nat} {σ : L2.St} {H : Hp} {Qd : Hp → Prop} {D : Addr} (hD : H D = none) (f : Int × Int → V) (hp : PrL H a ps) (hl : ps.length ≤ 1000)
    (hw : ∀ d r, wipe (((wipe σ vs).set x (some d)).set y (some r)) vs = wipe σ vs)
    (he : ∀ q ∈ ps, ∀ H' R, Same H H' → R (f q) H' → te (((wipe σ vs).set x (some (.int q.1))).set y (some (.int q.2))) H' R) (hq : ∀ H', Same H H' → H' D = some (.lst (ps.map f)) → Qd H') :
    ∃ W : Nat → Nat → Hp → Prop, (∃ m, W 0 m (upd H D (.lst []))) ∧ ∀ i m H, W i m H →
      ((Itl K a).stop i H ∧ Qd H) ∨ ((Itl K a).go i H ∧ ∃ Nx : Hp → Prop, (∀ H', Nx H' → ∃ m', m' < m ∧ W (i + 1) m' H') ∧ ∀ v H', (Itl K a).yld i H v H' → gTup K 2 (gCons (gName x) (gCons (gName y) gNil)) v (wipe σ vs) H' fun σ2 H2 => wipe σ2 vs = wipe σ vs ∧ tYes σ2 H2 fun b H3 =>
        if b = true then te σ2 H3 fun y H4 => ∃ acc, H4 D = some (.lst acc) ∧ acc.length < sizeLine ∧ Nx (upd H4 D (.lst (acc ++ [y]))) else Nx H3) := by
  obtain ⟨as, ha, hps⟩ := hp
  have hlen := Paired.len hps
  refine ⟨fun i m H' => m = ps.length - i ∧ i ≤ ps.length ∧ Same H H' ∧ H' D = some (.lst ((ps.take i).map f)), ⟨_, rfl, Nat.zero_le _, same_upd hD, upd_same⟩, ?_⟩
  rintro i m H' ⟨rfl, hi, sm, hd⟩
  by_cases hlt : i < ps.length
  · obtain ⟨b, eb, hb⟩ := hps.at' (List.getElem?_eq_getElem hlt)
    have eb2 : (as.map V.ref)[i]? = some (.ref b) := by rw [List.getElem?_map, eb]; rfl
    refine .inr ⟨⟨_, _, SqL.of (sm _ _ ha), eb2⟩, fun H' => Same H H' ∧ H' D = some (.lst ((ps.take (i + 1)).map f)), fun H2 ⟨s2, d2⟩ => ⟨ps.length - (i + 1), by omega, rfl, hlt, s2, d2⟩, fun v H2 y => ?_⟩
    obtain ⟨e, y⟩ := y
    subst e
    obtain rfl : v = .ref b := Option.some.inj ((y _ (SqL.of (sm _ _ ha))).symm.trans eb2)
    refine lc_prs hw (sm _ _ hb) (he _ (List.getElem_mem hlt) _ _ sm ⟨_, hd, ?_, fun b o e => ?_, ?_⟩)
    · rw [List.length_map, List.length_take]
      exact small1000 (by omega)
    · rw [upd_ne (ne_of_none e hD)]
      exact sm _ _ e
    · rw [upd_same, List.take_add_one, List.getElem?_eq_getElem hlt, List.map_append]
      rfl
  · have e : i = ps.length := by omega
    subst e
    refine .inl ⟨⟨_, SqL.of (sm _ _ ha), by rw [List.length_map, hlen]; exact Nat.le_refl _⟩, hq _ sm ?_⟩
    rw [List.take_length] at hd
    exact hd
/-- [(g d, h r) for d, r in t] -/
theorem lc_mk {K : PySem.W.Frag} {a : Addr} {ps : Pairs} {x y : Nat} {ta : TA} {vs : List Nat} {σ : L2.St} {H : Hp} {Qd : Hp → Prop} {D : Addr} (hD : H D = none) (f : Int × Int → Int × Int) (hp : PrT H a ps) (hl : ps.length ≤ 1000)
    (hw : ∀ d r, wipe (((wipe σ vs).set x (some d)).set y (some r)) vs = wipe σ vs)
    (he : ∀ q ∈ ps, ∀ H' R, Same H H' → R [.int (f q).1, .int (f q).2] H' → ta (((wipe σ vs).set x (some (.int q.1))).set y (some (.int q.2))) H' R) (hq : ∀ H', Same H H' → PrL H' D (ps.map f) → Qd H') :
    ∃ W : Nat → Nat → Hp → Prop, (∃ m, W 0 m (upd H D (.lst []))) ∧ ∀ i m H, W i m H →
      ((Itt K a).stop i H ∧ Qd H) ∨ ((Itt K a).go i H ∧ ∃ Nx : Hp → Prop, (∀ H', Nx H' → ∃ m', m' < m ∧ W (i + 1) m' H') ∧ ∀ v H', (Itt K a).yld i H v H' → gTup K 2 (gCons (gName x) (gCons (gName y) gNil)) v (wipe σ vs) H' fun σ2 H2 => wipe σ2 vs = wipe σ vs ∧ tYes σ2 H2 fun b H3 =>
        if b = true then tTup ta σ2 H3 fun y H4 => ∃ acc, H4 D = some (.lst acc) ∧ acc.length < sizeLine ∧ Nx (upd H4 D (.lst (acc ++ [y]))) else Nx H3) := by
  obtain ⟨as, ha, hps⟩ := hp
  have hlen := Paired.len hps
  refine ⟨fun i m H' => m = ps.length - i ∧ i ≤ ps.length ∧ Same H H' ∧ PrL H' D ((ps.take i).map f), ⟨_, rfl, Nat.zero_le _, same_upd hD, [], upd_same, .nil⟩, ?_⟩
  rintro i m H' ⟨rfl, hi, sm, bs, hd, hb0⟩
  by_cases hlt : i < ps.length
  · obtain ⟨b, eb, hb⟩ := hps.at' (List.getElem?_eq_getElem hlt)
    have eb2 : (as.map V.ref)[i]? = some (.ref b) := by rw [List.getElem?_map, eb]; rfl
    refine .inr ⟨⟨_, _, .inl (Same.rd sm ha), eb2⟩, fun H' => Same H H' ∧ PrL H' D ((ps.take (i + 1)).map f), fun H2 ⟨s2, d2⟩ => ⟨ps.length - (i + 1), by omega, rfl, hlt, s2, d2⟩, fun v H2 y => ?_⟩
    obtain ⟨e, y⟩ := y
    subst e
    obtain rfl : v = .ref b := Option.some.inj ((y _ (.inl (Same.rd sm ha))).symm.trans eb2)
    refine lc_prs hw (sm _ _ hb) (he _ (List.getElem_mem hlt) _ _ sm ⟨by show 2 ≤ sizeLine; decide, fun p np => ?_⟩)
    have npD : D ≠ p := ne_of_none hd np
    refine ⟨bs.map V.ref, by rw [upd_ne npD]; exact hd, ?_, fun b o e => ?_, bs ++ [p], ?_, ?_⟩
    · have := Paired.len hb0
      rw [List.length_map, List.length_take] at this
      rw [List.length_map]
      exact small1000 (by omega)
    · rw [upd_ne (ne_of_none e hD), upd_ne (ne_of_none (sm _ _ e) np)]
      exact sm _ _ e
    · rw [upd_same, List.map_append]
      rfl
    · rw [List.take_add_one, List.getElem?_eq_getElem hlt, List.map_append]
      refine Paired.snoc ?_ (Paired.mapP hb0 fun c q e => ?_)
      · rw [upd_ne npD.symm, upd_same]
        rfl
      · have e' : H2 c = some (tp q) := e
        have nc : c ≠ D := ne_of e' hd (by intro z; cases z)
        rw [upd_ne nc, upd_ne (ne_of_none e' np)]
        exact e'
  · have e : i = ps.length := by omega
    subst e
    refine .inl ⟨⟨_, .inl (Same.rd sm ha), by rw [List.length_map, hlen]; exact Nat.le_refl _⟩, hq _ sm ⟨bs, hd, ?_⟩⟩
    rw [List.take_length] at hb0
    exact hb0

/-! ### dicts from ints to ints -/
def kvI (q : Int × Int) : Key × V := (.inl q.1, .int q.2)
def toK (l : Pairs) : List (Key × V) := l.map kvI
theorem valV_toK (d : Int) : ∀ l : Pairs, valV (toK l) (.inl d) = (getI l d).map V.int
  | [] => rfl
  | q :: r => by
    rw [getI_cons]
    show valV (kvI q :: toK r) (.inl d) = _
    by_cases e : q.1 = d
    · rw [valV_pos (show (kvI q).1 = .inl d from congrArg Sum.inl e), if_pos e]
      rfl
    · rw [valV_neg (fun z => e (Sum.inl.inj z)), if_neg e, valV_toK d r]
theorem putK_toK (l : Pairs) (d v : Int) : putK (toK l) (.inl d) (.int v) = toK (putI l d v) := by
  have ha : ((toK l).any fun kv => decide (kv.1 = (.inl d : Key))) = l.any fun q => decide (q.1 = d) := by
    unfold toK
    rw [List.any_map]
    congr 1
    funext q
    by_cases e : q.1 = d
    · simp [kvI, e]
    · have : ¬ (kvI q).1 = (.inl d : Key) := fun z => e (Sum.inl.inj z)
      simp [this, e]
  unfold putK putI
  rw [ha]
  split
  · unfold toK
    rw [List.map_map, List.map_map]
    apply List.map_congr_left
    intro q _
    by_cases e : q.1 = d
    · simp [kvI, e]
    · have : ¬ (kvI q).1 = (.inl d : Key) := fun z => e (Sum.inl.inj z)
      simp [this, e, kvI]
  · unfold toK
    rw [List.map_append]
    rfl
/-- a dict of ints at a -/
def DiI (H : Hp) (a : Addr) (l : Pairs) : Prop := H a = some (.dK (toK l))
theorem DiI.get {H : Hp} {a : Addr} {l : Pairs} (h : DiI H a l) (d : Int) : DGet H a (.int d) ((getI l d).map V.int) := by
  rw [← valV_toK]
  exact DGet.k (k := .inl d) h
theorem DiI.getF {H : Hp} {a : Addr} {o : Obj} {l : Pairs} (h : H a = some (.frz o (.dK (toK l)))) (d : Int) : DGet H a (.int d) ((getI l d).map V.int) := by
  rw [← valV_toK]
  exact .inl ⟨_, .inl d, .inr ⟨o, h⟩, rfl, rfl⟩
theorem DiI.put {H : Hp} {a : Addr} {l : Pairs} (h : DiI H a l) (d v : Int) (hl : l.length ≤ 1000) : DPut H a (.int d) (.int v) (upd H a (.dK (toK (putI l d v)))) := by
  rw [← putK_toK]
  exact DPut.k (k := .inl d) h (by unfold toK; rw [List.length_map]; exact small1000 hl)
end K24
/-! K24, D1: looks and needs. -/
namespace K24
open PySem PySem.Spec PyProof.Rows L2
section
variable {P : Program} {w : World} {K : PySem.W.Frag} {mg : Str → Option Value} {base : Heap} {f : Addr} {fd : FuncData}

abbrev s_is_integer : Stmt := topS 13
abbrev N_is_integer : List Str := ["thing"]
theorem sc_is_integer : FnScope N_is_integer ["thing"] (defScope s_is_integer) := ⟨rfl, rfl, rfl, by decide +kernel, rfl, by decide +kernel, by decide +kernel⟩
/- [(0, 'thing')] cells [] calls [] -/

abbrev sp_is_integer : Sp := SpF (fun x : Int => [.int x]) fun _ H Q => Q (.bl true) H
theorem ok_is_integer (F : Fun K "is_integer" "is_integer" s_is_integer f fd) (T : Bl mg) : FnOk P w K mg base CX0 1 f fd ["thing"] sp_is_integer := by
  refine okF F sc_is_integer (fun _ => rfl) fun cdv A outer s H x Q E hr q => ?_
  refine ⟨_, (pss_one (ps_ret (pe_and (pe_callB call_isi (by rfl) T.isinstance (by decide +kernel) (pa_cons (pv 0) (pa_cons (pe_bltn (v := .ty "int") (by rfl) T.int (by decide +kernel) rfl) pa_nil))) (pe_one (pe_not (pe_callB call_isi (by rfl) T.isinstance (by decide +kernel) (pa_cons (pv 0) (pa_cons (pe_bltn (v := .ty "bool") (by rfl) T.bool (by decide +kernel) rfl) pa_nil)))))))), ?_⟩
  refine ⟨_, rfl, _, _, _, _, true, rfl, .ty "int", .base (.int x), kit_ty (by decide +kernel), true, rfl, iteT ?_⟩
  exact ⟨_, rfl, _, _, _, _, false, rfl, .ty "bool", .base (.int x), kit_ty (by decide +kernel), false, rfl, q⟩

abbrev s_is_between : Stmt := topS 14
abbrev N_is_between : List Str := ["thing", "least", "most"]
theorem sc_is_between : FnScope N_is_between ["thing", "least", "most"] (defScope s_is_between) := ⟨rfl, rfl, rfl, by decide +kernel, rfl, by decide +kernel, by decide +kernel⟩
/- [(0, 'thing'), (1, 'least'), (2, 'most')] cells [] calls ['is_integer'] -/

abbrev sp_is_between : Sp := SpF (fun x : Int × Int × Int => [.int x.1, .int x.2.1, .int x.2.2]) fun x H Q => Q (.bl (decide (x.2.1 ≤ x.1) && decide (x.1 ≤ x.2.2))) H
theorem ok_is_between (F : Fun K "is_between" "is_between" s_is_between f fd) (T : Bl mg) (h_is_integer : Has P w K mg base 1 "is_integer" ["thing"] sp_is_integer) : FnOk P w K mg base CX0 2 f fd ["thing", "least", "most"] sp_is_between := by
  refine okF F sc_is_between (fun _ => rfl) fun cdv A outer s H x Q E hr q => ?_
  refine ⟨_, (pss_one (ps_ret (pe_and (pe_fn h_is_integer (hr.mono (by decide)) (by rfl) (pa_cons (pv 0) pa_nil)) (pe_one (pe_chain op_le op_le (pv 1) (pv 0) (pv 2)))))), ?_⟩
  obtain ⟨x, lo, hi⟩ := x
  refine ⟨_, rfl, x, rfl, true, rfl, iteT ⟨_, rfl, _, rfl, _, _, rfl, rfl, _, rfl, ?_⟩⟩
  have q : Q (.bl (decide (lo ≤ x) && decide (x ≤ hi))) H := q
  by_cases h : lo ≤ x
  · rw [decide_eq_true h] at q ⊢
    exact iteT ⟨_, rfl, _, _, rfl, rfl, q⟩
  · rw [decide_eq_false h] at q ⊢
    exact iteF q

abbrev s_is_level : Stmt := topS 15
abbrev N_is_level : List Str := ["thing"]
theorem sc_is_level : FnScope N_is_level ["thing"] (defScope s_is_level) := ⟨rfl, rfl, rfl, by decide +kernel, rfl, by decide +kernel, by decide +kernel⟩
/- [(0, 'thing')] cells [] calls ['is_between'] -/

abbrev sp_is_level : Sp := SpF (fun x : Int => [.int x]) fun x H Q => Q (.bl (decide (1 ≤ x) && decide (x ≤ 400))) H
theorem ok_is_level (F : Fun K "is_level" "is_level" s_is_level f fd) (T : Bl mg) (h_is_between : Has P w K mg base 2 "is_between" ["thing", "least", "most"] sp_is_between) : FnOk P w K mg base CX0 3 f fd ["thing"] sp_is_level := by
  refine okF F sc_is_level (fun _ => rfl) fun cdv A outer s H x Q E hr q => ?_
  refine ⟨_, (pss_one (ps_ret (pe_fn h_is_between (hr.mono (by decide)) (by rfl) (pa_cons (pv 0) (pa_cons pe_int (pa_cons (pe_globI (by rfl) T.MOST_LEVEL) pa_nil)))))), ?_⟩
  exact ⟨_, rfl, (x, 1, 400), rfl, q⟩

abbrev s_need_level : Stmt := topS 22
abbrev N_need_level : List Str := ["level"]
theorem sc_need_level : FnScope N_need_level ["level"] (defScope s_need_level) := ⟨rfl, rfl, rfl, by decide +kernel, rfl, by decide +kernel, by decide +kernel⟩
/- [(0, 'level')] cells [] calls ['is_level'] -/

abbrev sp_need_level : Sp := SpF (fun x : Int => [.int x]) fun x H Q => 1 ≤ x ∧ x ≤ 400 ∧ Q .non H
theorem ok_need_level (F : Fun K "need_level" "need_level" s_need_level f fd) (T : Bl mg) (h_is_level : Has P w K mg base 3 "is_level" ["thing"] sp_is_level) : FnOk P w K mg base CX0 4 f fd ["level"] sp_need_level := by
  refine okF F sc_need_level (fun _ => rfl) fun cdv A outer s H x Q E hr q => ?_
  refine ⟨_, (pss_one (ps_if (pt_not (pt_val (pe_fn h_is_level (hr.mono (by decide)) (by rfl) (pa_cons (pv 0) pa_nil))))
    (pss_one ps_never)
    pss_nil)), ?_⟩
  obtain ⟨h1, h2, q⟩ := q
  refine ⟨_, rfl, x, rfl, _, rfl, ?_⟩
  rw [decide_eq_true h1, decide_eq_true h2]
  exact iteF q

abbrev s_need_from : Stmt := topS 23
abbrev N_need_from : List Str := ["thing", "low"]
theorem sc_need_from : FnScope N_need_from ["thing", "low"] (defScope s_need_from) := ⟨rfl, rfl, rfl, by decide +kernel, rfl, by decide +kernel, by decide +kernel⟩
/- [(0, 'thing'), (1, 'low')] cells [] calls ['is_integer'] -/

abbrev sp_need_from : Sp := SpF (fun x : Int × Int => [.int x.1, .int x.2]) fun x H Q => x.2 ≤ x.1 ∧ Q .non H
theorem ok_need_from (F : Fun K "need_from" "need_from" s_need_from f fd) (T : Bl mg) (h_is_integer : Has P w K mg base 1 "is_integer" ["thing"] sp_is_integer) : FnOk P w K mg base CX0 2 f fd ["thing", "low"] sp_need_from := by
  refine okF F sc_need_from (fun _ => rfl) fun cdv A outer s H x Q E hr q => ?_
  refine ⟨_, (pss_one (ps_if (PW.pt (pw_or (pt_not (pt_val (pe_fn h_is_integer (hr.mono (by decide)) (by rfl) (pa_cons (pv 0) pa_nil)))) (pw_or1 (pt_cmpR op_lt (pv 0) (pv 1) (nomark _)))))
    (pss_one ps_never)
    pss_nil)), ?_⟩
  obtain ⟨x, lo⟩ := x
  obtain ⟨h1, q⟩ := q
  refine ⟨_, rfl, x, rfl, true, rfl, iteF ⟨_, rfl, _, rfl, _, _, rfl, rfl, _, rfl, ?_⟩⟩
  rw [decide_eq_false (show ¬ x < lo from by have : lo ≤ x := h1; omega)]
  exact iteF q

abbrev s_least_multiple : Stmt := topS 16
abbrev N_least_multiple : List Str := ["one", "other"]
theorem sc_least_multiple : FnScope N_least_multiple ["one", "other"] (defScope s_least_multiple) := ⟨rfl, rfl, rfl, by decide +kernel, rfl, by decide +kernel, by decide +kernel⟩
/- [(0, 'one'), (1, 'other')] cells [] calls [] -/

abbrev sp_least_multiple : Sp := SpF (fun x : Int × Int => [.int x.1, .int x.2]) fun x H Q => 1 ≤ x.1 ∧ x.1 ≤ 1000000 ∧ 1 ≤ x.2 ∧ x.2 ≤ 1000000 ∧ Q (.int (lcm1 x.1 x.2)) H
theorem small_lt {x : Int} (h1 : -1000000000000 ≤ x) (h2 : x ≤ 1000000000000) : x.natAbs < 2 ^ 64 := by omega
theorem ok_least_multiple (F : Fun K "least_multiple" "least_multiple" s_least_multiple f fd) (T : Bl mg) : FnOk P w K mg base CX0 1 f fd ["one", "other"] sp_least_multiple := by
  refine okF F sc_least_multiple (fun _ => rfl) fun cdv A outer s H x Q E hr q => ?_
  refine ⟨_, (pss_one (ps_ret (pe_op op_mulW (pe_op op_fdivW (pv 0) (pe_callBfun cr_gcd (by rfl) T.gcd (pa_cons (pv 0) (pa_cons (pv 1) pa_nil)))) (pv 1)))), ?_⟩
  obtain ⟨a, b⟩ := x
  obtain ⟨h1, h2, h3, h4, q⟩ := q
  have h1 : 1 ≤ a := h1
  have h2 : a ≤ 1000000 := h2
  have h3 : 1 ≤ b := h3
  have h4 : b ≤ 1000000 := h4
  obtain ⟨g1, g2, _, _, _⟩ := norm_frac (x := a) (y := b) (by omega)
  have e : a / gcI a b ≤ a := Int.ediv_le_self _ (by omega)
  have e0 : 0 ≤ a / gcI a b := Int.ediv_nonneg (by omega) (by omega)
  refine ⟨_, rfl, _, rfl, _, rfl, a, b, rfl, a, gcI a b, rfl, rfl, wide_div g1 (b := 64) (small_lt (by omega) (by omega)) (by decide) (by decide), _, rfl, _, _, rfl, rfl, ?_, q⟩
  exact wide_mul (a := 64) (b := 64) (small_lt (by omega) (by omega)) (small_lt (by omega) (by omega)) (by decide) (by decide) (by decide)

abbrev s_normal : Stmt := topS 18
abbrev N_normal : List Str := ["top", "bottom", "divisor"]
theorem sc_normal : FnScope N_normal ["top", "bottom"] (defScope s_normal) := ⟨rfl, rfl, rfl, by decide +kernel, rfl, by decide +kernel, by decide +kernel⟩
/- [(0, 'top'), (1, 'bottom'), (2, 'divisor')] cells [] calls [] -/

abbrev sp_normal : Sp := SpF (fun x : Int × Int => [.int x.1, .int x.2]) fun x H Q => 0 < x.2 ∧ x.2.natAbs < 2 ^ 200 ∧ ∀ H' p, Same H H' → H' p = some (tp (x.1 / gcI x.1 x.2, x.2 / gcI x.1 x.2)) → Q (.ref p) H'
theorem ok_normal (F : Fun K "normal" "normal" s_normal f fd) (T : Bl mg) : FnOk P w K mg base CX0 1 f fd ["top", "bottom"] sp_normal := by
  refine okF F sc_normal (fun _ => rfl) fun cdv A outer s H x Q E hr q => ?_
  refine ⟨_, (pss_cons (ps_set (i := 2) sc_normal.nd rfl (.inl rfl) (pe_callBfun cr_gcd (by rfl) T.gcd (pa_cons (pv 0) (pa_cons (pv 1) pa_nil))))
  (pss_cons (ps_if (pt_cmpR op_lt (pv 1) pe_int (nomark _))
    (pss_one (ps_set (i := 2) sc_normal.nd rfl (.inl rfl) (pe_un un_neg (pv 2))))
    pss_nil)
  (pss_one (ps_ret (pe_tup (pa_cons (pe_op op_fdivW (pv 0) (pv 2)) (pa_cons (pe_op op_fdivW (pv 1) (pv 2)) pa_nil))))))), ?_⟩
  obtain ⟨a, b⟩ := x
  obtain ⟨h1, h2, q⟩ := q
  have h1 : 0 < b := h1
  have h2 : b.natAbs < 2 ^ 200 := h2
  obtain ⟨g1, g2, _, _, _⟩ := norm_frac (x := a) h1
  have g3 : (gcI a b).natAbs < 2 ^ 200 := by omega
  refine ⟨_, rfl, _, rfl, a, b, rfl, _, rfl, _, _, rfl, rfl, _, rfl, ?_⟩
  rw [decide_eq_false (show ¬ b < 0 by omega)]
  refine iteF ⟨_, rfl, _, rfl, a, gcI a b, rfl, rfl, wide_div g1 g3 (by decide) (by decide), _, rfl, _, rfl, b, gcI a b, rfl, rfl, wide_div g1 g3 (by decide) (by decide), by show 2 ≤ sizeLine; decide, fun p np => ?_⟩
  exact q _ p (same_upd np) upd_same

abbrev s_number_sum : Stmt := topS 19
abbrev N_number_sum : List Str := ["one", "other"]
theorem sc_number_sum : FnScope N_number_sum ["one", "other"] (defScope s_number_sum) := ⟨rfl, rfl, rfl, by decide +kernel, rfl, by decide +kernel, by decide +kernel⟩
/- [(0, 'one'), (1, 'other')] cells [] calls ['normal'] -/

abbrev sp_number_sum : Sp := SpF (fun x : (Addr × Int × Int) × (Addr × Int × Int) => [.ref x.1.1, .ref x.2.1]) fun x H Q => H x.1.1 = some (tp x.1.2) ∧ H x.2.1 = some (tp x.2.2) ∧ x.1.2.1.natAbs < 2 ^ 60 ∧ x.1.2.2.natAbs < 2 ^ 60 ∧ x.2.2.1.natAbs < 2 ^ 60 ∧ x.2.2.2.natAbs < 2 ^ 60 ∧ 0 < x.1.2.2 ∧ 0 < x.2.2.2 ∧
  ∀ H' p, Same H H' → H' p = some (tp ((x.1.2.1 * x.2.2.2 + x.2.2.1 * x.1.2.2) / gcI (x.1.2.1 * x.2.2.2 + x.2.2.1 * x.1.2.2) (x.1.2.2 * x.2.2.2), x.1.2.2 * x.2.2.2 / gcI (x.1.2.1 * x.2.2.2 + x.2.2.1 * x.1.2.2) (x.1.2.2 * x.2.2.2))) → Q (.ref p) H'
theorem ok_number_sum (F : Fun K "number_sum" "number_sum" s_number_sum f fd) (T : Bl mg) (h_normal : Has P w K mg base 1 "normal" ["top", "bottom"] sp_normal) : FnOk P w K mg base CX0 2 f fd ["one", "other"] sp_number_sum := by
  refine okF F sc_number_sum (fun _ => rfl) fun cdv A outer s H x Q E hr q => ?_
  refine ⟨_, (pss_one (ps_ret (pe_fn h_normal (hr.mono (by decide)) (by rfl) (pa_cons (pe_op op_add (pe_op op_mulW (pe_ix ix_tup (pv 0) pe_int (fun _ _ => rfl)) (pe_ix ix_tup (pv 1) pe_int (fun _ _ => rfl))) (pe_op op_mulW (pe_ix ix_tup (pv 1) pe_int (fun _ _ => rfl)) (pe_ix ix_tup (pv 0) pe_int (fun _ _ => rfl)))) (pa_cons (pe_op op_mulW (pe_ix ix_tup (pv 0) pe_int (fun _ _ => rfl)) (pe_ix ix_tup (pv 1) pe_int (fun _ _ => rfl))) pa_nil))))), ?_⟩
  obtain ⟨⟨a, x1, y1⟩, ⟨b, x2, y2⟩⟩ := x
  obtain ⟨ha, hb, b1, b2, b3, b4, p1, p2, q⟩ := q
  have A0 : SqT K H a [.int x1, .int y1] := SqT.of ha
  have B0 : SqT K H b [.int x2, .int y2] := SqT.of hb
  have mul : ∀ {u v : Int}, u.natAbs < 2 ^ 60 → v.natAbs < 2 ^ 60 → CMulW u v := fun h1 h2 => wide_mul (a := 60) (b := 60) h1 h2 (by decide) (by decide) (by decide)
  have Y : 0 < y1 * y2 := Int.mul_pos p1 p2
  have Y2 : (y1 * y2).natAbs < 2 ^ 200 := Nat.lt_trans (wide_lt b2 b4) (by decide)
  refine ⟨_, rfl, a, _, 0, _, rfl, rfl, A0, atI_nat (j := 0) rfl, _, rfl, b, _, 1, _, rfl, rfl, B0, atI_nat (j := 1) rfl, _, _, rfl, rfl, mul b1 b4, ?_⟩
  refine ⟨_, rfl, b, _, 0, _, rfl, rfl, B0, atI_nat (j := 0) rfl, _, rfl, a, _, 1, _, rfl, rfl, A0, atI_nat (j := 1) rfl, _, _, rfl, rfl, mul b3 b2, _, _, rfl, rfl, ?_⟩
  refine ⟨_, rfl, a, _, 1, _, rfl, rfl, A0, atI_nat (j := 1) rfl, _, rfl, b, _, 1, _, rfl, rfl, B0, atI_nat (j := 1) rfl, _, _, rfl, rfl, mul b2 b4, ?_⟩
  exact ⟨(x1 * y2 + x2 * y1, y1 * y2), rfl, Y, Y2, q⟩

abbrev s_number_product : Stmt := topS 20
abbrev N_number_product : List Str := ["one", "other"]
theorem sc_number_product : FnScope N_number_product ["one", "other"] (defScope s_number_product) := ⟨rfl, rfl, rfl, by decide +kernel, rfl, by decide +kernel, by decide +kernel⟩
/- [(0, 'one'), (1, 'other')] cells [] calls ['normal'] -/

abbrev sp_number_product : Sp := SpF (fun x : (Addr × Int × Int) × (Addr × Int × Int) => [.ref x.1.1, .ref x.2.1]) fun x H Q => H x.1.1 = some (tp x.1.2) ∧ H x.2.1 = some (tp x.2.2) ∧ x.1.2.1.natAbs < 2 ^ 60 ∧ x.1.2.2.natAbs < 2 ^ 60 ∧ x.2.2.1.natAbs < 2 ^ 60 ∧ x.2.2.2.natAbs < 2 ^ 60 ∧ 0 < x.1.2.2 ∧ 0 < x.2.2.2 ∧
  ∀ H' p, Same H H' → H' p = some (tp (x.1.2.1 * x.2.2.1 / gcI (x.1.2.1 * x.2.2.1) (x.1.2.2 * x.2.2.2), x.1.2.2 * x.2.2.2 / gcI (x.1.2.1 * x.2.2.1) (x.1.2.2 * x.2.2.2))) → Q (.ref p) H'
theorem ok_number_product (F : Fun K "number_product" "number_product" s_number_product f fd) (T : Bl mg) (h_normal : Has P w K mg base 1 "normal" ["top", "bottom"] sp_normal) : FnOk P w K mg base CX0 2 f fd ["one", "other"] sp_number_product := by
  refine okF F sc_number_product (fun _ => rfl) fun cdv A outer s H x Q E hr q => ?_
  refine ⟨_, (pss_one (ps_ret (pe_fn h_normal (hr.mono (by decide)) (by rfl) (pa_cons (pe_op op_mulW (pe_ix ix_tup (pv 0) pe_int (fun _ _ => rfl)) (pe_ix ix_tup (pv 1) pe_int (fun _ _ => rfl))) (pa_cons (pe_op op_mulW (pe_ix ix_tup (pv 0) pe_int (fun _ _ => rfl)) (pe_ix ix_tup (pv 1) pe_int (fun _ _ => rfl))) pa_nil))))), ?_⟩
  obtain ⟨⟨a, x1, y1⟩, ⟨b, x2, y2⟩⟩ := x
  obtain ⟨ha, hb, b1, b2, b3, b4, p1, p2, q⟩ := q
  have A0 : SqT K H a [.int x1, .int y1] := SqT.of ha
  have B0 : SqT K H b [.int x2, .int y2] := SqT.of hb
  have mul : ∀ {u v : Int}, u.natAbs < 2 ^ 60 → v.natAbs < 2 ^ 60 → CMulW u v := fun h1 h2 => wide_mul (a := 60) (b := 60) h1 h2 (by decide) (by decide) (by decide)
  have Y : 0 < y1 * y2 := Int.mul_pos p1 p2
  have Y2 : (y1 * y2).natAbs < 2 ^ 200 := Nat.lt_trans (wide_lt b2 b4) (by decide)
  refine ⟨_, rfl, a, _, 0, _, rfl, rfl, A0, atI_nat (j := 0) rfl, _, rfl, b, _, 0, _, rfl, rfl, B0, atI_nat (j := 0) rfl, _, _, rfl, rfl, mul b1 b3, ?_⟩
  refine ⟨_, rfl, a, _, 1, _, rfl, rfl, A0, atI_nat (j := 1) rfl, _, rfl, b, _, 1, _, rfl, rfl, B0, atI_nat (j := 1) rfl, _, _, rfl, rfl, mul b2 b4, ?_⟩
  exact ⟨(x1 * x2, y1 * y2), rfl, Y, Y2, q⟩
end
end K24
/-! K24, D2: primes, signs. -/
namespace K24
open PySem PySem.Spec PyProof.Rows L2
theorem div_ge1 {n p : Int} (hn : 1 ≤ n) (hp : 1 ≤ p) (h : n % p = 0) : 1 ≤ n / p ∧ n / p ≤ n := ⟨(div_div_of hn hp h).1, Int.ediv_le_self _ (by omega)⟩
theorem intEq {a b : Int} (h : decide (V.int a = V.int b) = true) : a = b := V.int.inj (of_decide_eq_true h)
theorem intNe {a b : Int} (h : ¬ decide (V.int a = V.int b) = true) : a ≠ b := fun z => h (decide_eq_true (congrArg V.int z))
theorem iT {p A B : Prop} [Decidable p] (h : p) (k : A) : if decide p = true then A else B := by
  rw [decide_eq_true h]
  exact iteT k
theorem iF {p A B : Prop} [Decidable p] (h : ¬ p) (k : B) : if decide p = true then A else B := by
  rw [decide_eq_false h]
  exact iteF k
theorem vEq {a b : Int} (h : a = b) : V.int a = V.int b := congrArg V.int h
theorem vNe {a b : Int} (h : a ≠ b) : ¬ V.int a = V.int b := fun z => h (V.int.inj z)
theorem dropF_pos {f : Nat} {p n : Int} {c : Nat} {e : Int} (h : dropF f p n = some (c, e)) (hn : n % p = 0) : ∃ f' c', f = f' + 1 ∧ c = c' + 1 ∧ dropF f' p (n / p) = some (c', e) := by
  cases f with
  | zero => cases h
  | succ f =>
    unfold dropF at h
    rw [if_pos hn] at h
    cases z : dropF f p (n / p) with
    | none => rw [z] at h; cases h
    | some x =>
      obtain ⟨c', e'⟩ := x
      rw [z] at h
      cases h
      exact ⟨f, c', rfl, rfl, z⟩
theorem dropF_neg {f : Nat} {p n : Int} {c : Nat} {e : Int} (h : dropF f p n = some (c, e)) (hn : n % p ≠ 0) : c = 0 ∧ e = n := by
  cases f with
  | zero => cases h
  | succ f =>
    unfold dropF at h
    rw [if_neg hn] at h
    cases h
    exact ⟨rfl, rfl⟩
theorem primesF_step {m : Nat} {n p : Int} {rest : List Int} (h : primesF m n p = some rest) (hn : 1 < n) : ∃ f, m = f + 1 ∧
    ((n % (if n < p * p then n else p) = 0 ∧ ∃ c e L, dropF 9 (if n < p * p then n else p) n = some (c, e) ∧ primesF f e ((if n < p * p then n else p) + 1) = some L ∧ rest = (if n < p * p then n else p) :: L) ∨
     (n % (if n < p * p then n else p) ≠ 0 ∧ primesF f n ((if n < p * p then n else p) + 1) = some rest)) := by
  cases m with
  | zero => cases h
  | succ f =>
    unfold primesF at h
    rw [if_pos hn] at h
    refine ⟨f, rfl, ?_⟩
    generalize (if n < p * p then n else p) = p' at *
    by_cases z : n % p' = 0
    · rw [if_pos z] at h
      cases d : dropF 9 p' n with
      | none => rw [d] at h; cases h
      | some x =>
        obtain ⟨c, e⟩ := x
        rw [d] at h
        cases k : primesF f e (p' + 1) with
        | none =>
          have h' : (primesF f e (p' + 1)).map (fun l => p' :: l) = some rest := h
          rw [k] at h'
          cases h'
        | some L =>
          have h' : (primesF f e (p' + 1)).map (fun l => p' :: l) = some rest := h
          rw [k] at h'
          cases h'
          exact .inl ⟨z, c, e, L, rfl, k, rfl⟩
    · rw [if_neg z] at h
      exact .inr ⟨z, h⟩
theorem primesF_end {m : Nat} {n p : Int} {rest : List Int} (h : primesF m n p = some rest) (hn : ¬ 1 < n) : rest = [] := by
  cases m with
  | zero => cases h
  | succ f =>
    unfold primesF at h
    rw [if_neg hn] at h
    cases h
    rfl
theorem mul_ok {i j : Int} (h1 : -1000000000000 ≤ i) (h2 : i ≤ 1000000000000) (h3 : -1000000000000 ≤ j) (h4 : j ≤ 1000000000000) : CMulW i j :=
  wide_mul (a := 64) (b := 64) (small_lt h1 h2) (small_lt h3 h4) (by decide) (by decide) (by decide)
theorem div_ok {i j : Int} (h1 : 0 < j) (h2 : j ≤ 1000000000000) : CDivW i j := wide_div h1 (b := 64) (small_lt (by omega) h2) (by decide) (by decide)
section
variable {P : Program} {w : World} {K : PySem.W.Frag} {mg : Str → Option Value} {base : Heap} {f : Addr} {fd : FuncData}

abbrev s_primes_of : Stmt := topS 17
abbrev N_primes_of : List Str := ["number", "found", "prime"]
theorem sc_primes_of : FnScope N_primes_of ["number"] (defScope s_primes_of) := ⟨rfl, rfl, rfl, by decide +kernel, rfl, by decide +kernel, by decide +kernel⟩
/- [(0, 'number'), (1, 'found'), (2, 'prime')] cells [] calls [] -/

abbrev sp_primes_of : Sp := SpF (fun x : Int × List Int => [.int x.1]) fun x H Q => 1 ≤ x.1 ∧ x.1 ≤ 144 ∧ primesF 30 x.1 2 = some x.2 ∧ ∀ H' l, Same H H' → H l = none → H' l = some (.lst (x.2.map V.int)) → Q (.ref l) H'
theorem ok_primes_of (F : Fun K "primes_of" "primes_of" s_primes_of f fd) (T : Bl mg) : FnOk P w K mg base CX0 1 f fd ["number"] sp_primes_of := by
  refine okF F sc_primes_of (fun _ => rfl) fun cdv A outer s H x Q E hr q => ?_
  refine ⟨_, (pss_cons (ps_par (i := 1) (j := 2) (by rfl) sc_primes_of.nd rfl rfl (by decide) rfl rfl (pa_cons (pe_lst pa_nil) (pa_cons pe_int pa_nil)) (by rfl))
  (pss_cons (ps_while PassesOwn.never (pt_cmpR op_gt (pv 0) pe_int (nomark _))
    (C8.pss_cut (ps_if (pt_cmpR op_gt (pe_op op_mulW (pv 2) (pv 2)) (pv 0) (nomark _))
    (pss_one (ps_set (i := 2) sc_primes_of.nd rfl (.inl rfl) (pv 0)))
    pss_nil)
  (C8.pss_cut (ps_if (pt_cmpR op_eq (pe_op op_mod (pv 0) (pv 2)) pe_int (nomark _))
    (pss_cons (ps_expr (pe_bm PySem.F.plainAttrs_list PySem.F.slot_list_append PySem.F.type_list_append mt_append (pv 1) (pa_cons (pv 2) pa_nil)))
  (pss_one (ps_while PassesOwn.never (pt_cmpR op_eq (pe_op op_mod (pv 0) (pv 2)) pe_int (nomark _))
    (pss_one (ps_set (i := 0) sc_primes_of.nd rfl (.inl rfl) (pe_op op_fdivW (pv 0) (pv 2)))))))
    pss_nil)
  (pss_one (ps_aug (i := 2) sc_primes_of.nd rfl (.inl rfl) pe_int ip_add)))))
  (pss_one (ps_ret (pv 1))))), ?_⟩
  obtain ⟨n0, L⟩ := x
  obtain ⟨h1, h2, hrun, q⟩ := q
  refine ⟨Nat.zero_le _, fun l nl => ⟨_, _, rfl, ?_⟩⟩
  refine ⟨fun m σ H' => ∃ (n p : Int) (done rest : List Int), σ = [some (.int n), some (.ref l), some (.int p)] ∧ primesF m n p = some rest ∧ done ++ rest = L ∧ H' l = some (.lst (done.map V.int)) ∧ Same H H' ∧ 1 ≤ n ∧ n ≤ 144 ∧ 2 ≤ p ∧ p + m ≤ 200 ∧ m ≤ 30 ∧ done.length + m ≤ 30,
    ⟨30, n0, 2, [], L, rfl, hrun, rfl, upd_same, same_upd nl, h1, h2, by decide, by decide, by decide, by decide⟩, ?_⟩
  rintro m σ H' ⟨n, p, done, rest, rfl, hr', hd, hl, sm, a1, a2, a3, a4, a5, a6⟩
  refine ⟨_, rfl, _, _, rfl, rfl, _, rfl, ite2 (fun c => ?_) (fun c => ?_)⟩
  · have hn : 1 < n := of_decide_eq_true c
    obtain ⟨f', rfl, st⟩ := primesF_step hr' hn
    have hp' : 2 ≤ (if n < p * p then n else p) ∧ (if n < p * p then n else p) + 1 + f' ≤ 200 ∧ (if n < p * p then n else p) ≤ 200 := by
      split <;> omega
    refine ⟨fun σ' H2 => ∃ (n2 p2 : Int) (done2 rest2 : List Int), σ' = [some (.int n2), some (.ref l), some (.int p2)] ∧ primesF f' n2 p2 = some rest2 ∧ done2 ++ rest2 = L ∧ H2 l = some (.lst (done2.map V.int)) ∧ Same H H2 ∧ 1 ≤ n2 ∧ n2 ≤ 144 ∧ 2 ≤ p2 ∧ p2 + f' ≤ 200 ∧ f' ≤ 30 ∧ done2.length + f' ≤ 30, fun σ' H2 z => ⟨f', by omega, z⟩, ?_⟩
    refine ⟨fun σ' H2 => σ' = [some (.int n), some (.ref l), some (.int (if n < p * p then n else p))] ∧ H2 = H', ?_, ?_⟩
    · refine ⟨_, rfl, _, rfl, _, _, rfl, rfl, mul_ok (by omega) (by omega) (by omega) (by omega), _, rfl, _, _, rfl, rfl, _, rfl, ite2 (fun c2 => ?_) (fun c2 => ?_)⟩
      · refine ⟨_, rfl, ?_, rfl⟩
        rw [if_pos (of_decide_eq_true c2)]
        rfl
      · refine ⟨?_, rfl⟩
        rw [if_neg (fun z => c2 (decide_eq_true z))]
    · rintro σ' H2 ⟨rfl, rfl⟩
      generalize (if n < p * p then n else p) = p' at *
      refine ⟨fun σ' H2 => ∃ (n2 : Int) (done2 rest2 : List Int), σ' = [some (.int n2), some (.ref l), some (.int p')] ∧ primesF f' n2 (p' + 1) = some rest2 ∧ done2 ++ rest2 = L ∧ H2 l = some (.lst (done2.map V.int)) ∧ Same H H2 ∧ 1 ≤ n2 ∧ n2 ≤ 144 ∧ done2.length + f' ≤ 30, ?_, ?_⟩
      · refine ⟨_, rfl, _, rfl, _, _, rfl, rfl, by omega, rfl, _, rfl, ite2 (fun c3 => ?_) (fun c3 => ?_)⟩
        · have e0 := intEq c3
          rcases st with ⟨_, cc, e, L', hdr, hpr, rfl⟩ | ⟨z, _⟩
          · refine ⟨_, rfl, .inl ⟨rfl, _, SqL.of hl⟩, _, rfl, l, _, _, rfl, rfl, hl, by rw [List.length_map]; exact small1000 (by omega), ?_⟩
            refine ⟨fun m2 σ' H3 => ∃ (n2 : Int) (c2 : Nat), σ' = [some (.int n2), some (.ref l), some (.int p')] ∧ dropF m2 p' n2 = some (c2, e) ∧ 1 ≤ n2 ∧ n2 ≤ 144 ∧ H3 = upd H2 l (.lst (done.map V.int ++ [.int p'])), ⟨9, n, cc, rfl, hdr, a1, a2, rfl⟩, ?_⟩
            rintro m2 σ' H3 ⟨n2, c2, rfl, hdr2, b1, b2, rfl⟩
            refine ⟨_, rfl, _, rfl, _, _, rfl, rfl, by omega, rfl, _, rfl, ite2 (fun c4 => ?_) (fun c4 => ?_)⟩
            · obtain ⟨m3, c3', rfl, rfl, hdr3⟩ := dropF_pos hdr2 (intEq c4)
              obtain ⟨d1, d2⟩ := div_ge1 b1 (show 1 ≤ p' by omega) (intEq c4)
              exact ⟨fun σ' H3 => ∃ (n2 : Int) (c2 : Nat), σ' = [some (.int n2), some (.ref l), some (.int p')] ∧ dropF m3 p' n2 = some (c2, e) ∧ 1 ≤ n2 ∧ n2 ≤ 144 ∧ H3 = upd H2 l (.lst (done.map V.int ++ [.int p'])), fun σ' H3 z => ⟨m3, by omega, z⟩, _, rfl, _, rfl, _, _, rfl, rfl, div_ok (by omega) (by omega), n2 / p', c3', rfl, hdr3, d1, by omega, rfl⟩
            · obtain ⟨_, rfl⟩ := dropF_neg hdr2 (intNe c4)
              refine ⟨_, done ++ [p'], L', rfl, hpr, by rw [← hd, List.append_assoc]; rfl, by rw [upd_same, List.map_append]; rfl, fun b o z => ?_, b1, b2, by rw [List.length_append, List.length_singleton]; omega⟩
              rw [upd_ne (ne_of_none z nl)]
              exact sm b o z
          · exact absurd e0 z
        · rcases st with ⟨z, _⟩ | ⟨_, hpr⟩
          · exact absurd z (intNe c3)
          · exact ⟨n, done, rest, rfl, hpr, hd, hl, sm, a1, a2, by omega⟩
      · rintro σ' H3 ⟨n2, done2, rest2, rfl, g1, g2, g3, g4, g5, g6, g7⟩
        exact ⟨_, rfl, _, _, rfl, rfl, n2, p' + 1, done2, rest2, rfl, g1, g2, g3, g4, g5, g6, by omega, by omega, by omega, g7⟩
  · obtain rfl := primesF_end hr' (fun z => c (decide_eq_true z))
    rw [List.append_nil] at hd
    subst hd
    exact ⟨_, rfl, q H' l sm nl hl⟩
end
end K24
/-! K24, D3: signs. -/
namespace K24
open PySem PySem.Spec PyProof.Rows L2
theorem freeF_step {m : Nat} {n r : Int} {b : Bool} (h : freeF m n r = some b) (hn : r * r ≤ n) : ∃ f, m = f + 1 ∧ ((n % (r * r) = 0 ∧ b = false) ∨ (n % (r * r) ≠ 0 ∧ freeF f n (r + 1) = some b)) := by
  cases m with
  | zero => cases h
  | succ f =>
    unfold freeF at h
    rw [if_pos hn] at h
    refine ⟨f, rfl, ?_⟩
    by_cases z : n % (r * r) = 0
    · rw [if_pos z] at h
      cases h
      exact .inl ⟨z, rfl⟩
    · rw [if_neg z] at h
      exact .inr ⟨z, h⟩
theorem freeF_end {m : Nat} {n r : Int} {b : Bool} (h : freeF m n r = some b) (hn : ¬ r * r ≤ n) : b = true := by
  cases m with
  | zero => cases h
  | succ f =>
    unfold freeF at h
    rw [if_neg hn] at h
    cases h
    rfl
def absI (n : Int) : Int := if n < 0 then -n else n
theorem signF_step {m : Nat} {n r x : Int} (h : signF m n r = some x) (hn : r * r ≤ absI n) : ∃ f e, m = f + 1 ∧ sqF 14 (r * r) n = some e ∧ signF f e (r + 1) = some x := by
  cases m with
  | zero => cases h
  | succ f =>
    unfold signF at h
    rw [if_pos (show r * r ≤ (if n < 0 then -n else n) from hn)] at h
    cases z : sqF 14 (r * r) n with
    | none => rw [z] at h; cases h
    | some e =>
      rw [z] at h
      exact ⟨f, e, rfl, rfl, h⟩
theorem signF_end {m : Nat} {n r x : Int} (h : signF m n r = some x) (hn : ¬ r * r ≤ absI n) : x = n := by
  cases m with
  | zero => cases h
  | succ f =>
    unfold signF at h
    rw [if_neg (show ¬ r * r ≤ (if n < 0 then -n else n) from hn)] at h
    cases h
    rfl
theorem sqF_pos {m : Nat} {q n e : Int} (h : sqF m q n = some e) (hn : n % q = 0) : ∃ f, m = f + 1 ∧ sqF f q (n / q) = some e := by
  cases m with
  | zero => cases h
  | succ f =>
    unfold sqF at h
    rw [if_pos hn] at h
    exact ⟨f, rfl, h⟩
theorem sqF_neg {m : Nat} {q n e : Int} (h : sqF m q n = some e) (hn : ¬ n % q = 0) : e = n := by
  cases m with
  | zero => cases h
  | succ f =>
    unfold sqF at h
    rw [if_neg hn] at h
    cases h
    rfl
theorem div_small {n q B : Int} (hq : 1 ≤ q) (hB : 0 ≤ B) (h1 : -B ≤ n) (h2 : n ≤ B) : -B ≤ n / q ∧ n / q ≤ B := by
  refine ⟨?_, ?_⟩
  · refine Int.le_ediv_of_mul_le (by omega) ?_
    have := Int.mul_le_mul_of_nonneg_left hq hB
    have : -B * q ≤ -B := by
      rw [Int.neg_mul]
      omega
    omega
  · by_cases h : 0 ≤ n
    · have := Int.ediv_le_self q h
      omega
    · have : n / q ≤ 0 := Int.le_of_lt (Int.ediv_neg_of_neg_of_pos (by omega) (by omega))
      omega
theorem iteB {b : Bool} {A B : Prop} (h : b = true) (k : A) : if b = true then A else B := by
  rw [h]
  exact iteT k
theorem iteB0 {b c : Bool} (h : b = true) : (if false = true then c else b) = true := h
section
variable {P : Program} {w : World} {K : PySem.W.Frag} {mg : Str → Option Value} {base : Heap} {f : Addr} {fd : FuncData}

abbrev s_is_free : Stmt := topS 26
abbrev N_is_free : List Str := ["number", "root"]
theorem sc_is_free : FnScope N_is_free ["number"] (defScope s_is_free) := ⟨rfl, rfl, rfl, by decide +kernel, rfl, by decide +kernel, by decide +kernel⟩
/- [(0, 'number'), (1, 'root')] cells [] calls [] -/

abbrev sp_is_free : Sp := SpF (fun x : Int × Bool => [.int x.1]) fun x H Q => -400 ≤ x.1 ∧ x.1 ≤ 400 ∧ freeF 30 (absI x.1) 2 = some x.2 ∧ Q (.bl x.2) H
theorem ok_is_free (F : Fun K "is_free" "is_free" s_is_free f fd) (T : Bl mg) : FnOk P w K mg base CX0 1 f fd ["number"] sp_is_free := by
  refine okF F sc_is_free (fun _ => rfl) fun cdv A outer s H x Q E hr q => ?_
  refine ⟨_, (pss_cons (ps_par (i := 0) (j := 1) (by rfl) sc_is_free.nd rfl rfl (by decide) rfl rfl (pa_cons (pe_callB call_abs (by rfl) T.abs (by decide +kernel) (pa_cons (pv 0) pa_nil)) (pa_cons pe_int pa_nil)) (by rfl))
  (pss_cons (ps_while PassesOwn.never (pt_cmpR op_le (pe_op op_mulW (pv 1) (pv 1)) (pv 0) (nomark _))
    (pss_cons (ps_if (pt_cmpR op_eq (pe_op op_mod (pv 0) (pe_op op_mulW (pv 1) (pv 1))) pe_int (nomark _))
    (pss_one (ps_ret pe_bl))
    pss_nil)
  (pss_one (ps_aug (i := 1) sc_is_free.nd rfl (.inl rfl) pe_int ip_add))))
  (pss_one (ps_ret pe_bl)))), ?_⟩
  obtain ⟨n0, b⟩ := x
  obtain ⟨h1, h2, hrun, q⟩ := q
  refine ⟨_, rfl, _, rfl, _, _, rfl, ?_⟩
  refine ⟨fun m σ H' => ∃ (r : Int), σ = [some (.int (absI n0)), some (.int r)] ∧ freeF m (absI n0) r = some b ∧ H' = H ∧ 2 ≤ r ∧ r + m ≤ 40, ⟨30, 2, rfl, hrun, rfl, by decide, by decide⟩, ?_⟩
  rintro m σ H' ⟨r, rfl, hr', rfl, a1, a2⟩
  refine ⟨_, rfl, _, rfl, _, _, rfl, rfl, mul_ok (by omega) (by omega) (by omega) (by omega), _, rfl, _, _, rfl, rfl, _, rfl, ite2 (fun c => ?_) (fun c => ?_)⟩
  · obtain ⟨f', rfl, st⟩ := freeF_step hr' (of_decide_eq_true c)
    refine ⟨fun σ H2 => ∃ (r : Int), σ = [some (.int (absI n0)), some (.int r)] ∧ freeF f' (absI n0) r = some b ∧ H2 = H' ∧ 2 ≤ r ∧ r + f' ≤ 40, fun σ' H2 z => ⟨f', by omega, z⟩, ?_⟩
    refine ⟨_, rfl, _, rfl, _, rfl, _, _, rfl, rfl, mul_ok (by omega) (by omega) (by omega) (by omega), _, _, rfl, rfl, Int.mul_pos (by omega) (by omega), rfl, _, rfl, ite2 (fun c2 => ?_) (fun c2 => ?_)⟩
    · rcases st with ⟨_, rfl⟩ | ⟨z, _⟩
      · exact q
      · exact absurd (intEq c2) z
    · rcases st with ⟨z, _⟩ | ⟨_, hr2⟩
      · exact absurd z (intNe c2)
      · exact ⟨_, rfl, _, _, rfl, rfl, r + 1, rfl, hr2, rfl, by omega, by omega⟩
  · obtain rfl := freeF_end hr' (fun z => c (decide_eq_true z))
    exact q

abbrev s_is_sign : Stmt := topS 27
abbrev N_is_sign : List Str := ["thing"]
theorem sc_is_sign : FnScope N_is_sign ["thing"] (defScope s_is_sign) := ⟨rfl, rfl, rfl, by decide +kernel, rfl, by decide +kernel, by decide +kernel⟩
/- [(0, 'thing')] cells [] calls ['is_between', 'is_free'] -/

abbrev sp_is_sign : Sp := SpF (fun x : Int => [.int x]) fun x H Q => signOkB x = true ∧ ∀ H', Same H H' → Q (.bl true) H'
theorem ok_is_sign (F : Fun K "is_sign" "is_sign" s_is_sign f fd) (T : Bl mg) (h_is_between : Has P w K mg base 2 "is_between" ["thing", "least", "most"] sp_is_between) (h_is_free : Has P w K mg base 1 "is_free" ["number"] sp_is_free) :
    FnOk P w K mg base CX0 3 f fd ["thing"] sp_is_sign := by
  refine okF F sc_is_sign (fun _ => rfl) fun cdv A outer s H x Q E hr q => ?_
  refine ⟨_, (pss_cons (ps_if (PW.pt (pw_or (pt_not (pt_val (pe_fn h_is_between (hr.mono (by decide)) (by rfl) (pa_cons (pv 0) (pa_cons (pe_un un_neg (pe_globI (by rfl) T.MOST_SIGN)) (pa_cons (pe_globI (by rfl) T.MOST_SIGN) pa_nil)))))) (pw_or1 (pt_cmpR op_eq (pv 0) pe_int (nomark _)))))
    (pss_one (ps_ret pe_bl))
    pss_nil)
  (pss_cons (ps_if (pt_cmpR op_eq (pe_op op_mod (pv 0) pe_int) pe_int (nomark _))
    (pss_one (ps_ret (pe_fn h_is_free (hr.mono (by decide)) (by rfl) (pa_cons (pv 0) pa_nil))))
    pss_nil)
  (pss_one (ps_ret (pe_and (pe_cmpR op_eq (pe_op op_mod (pv 0) pe_int) pe_int (nomark _)) (pe_and (pe_cmpR op_in_seq (pe_op op_mod (pe_op op_fdivW (pv 0) pe_int) pe_int) (pe_tup (pa_cons pe_int (pa_cons pe_int pa_nil))) (by rfl)) (pe_one (pe_fn h_is_free (hr.mono (by decide)) (by rfl) (pa_cons (pe_op op_fdivW (pv 0) pe_int) pa_nil))))))))), ?_⟩
  obtain ⟨h, q⟩ := q
  unfold signOkB at h
  simp only [Bool.and_eq_true, Bool.or_eq_true, decide_eq_true_eq] at h
  obtain ⟨⟨⟨b1, b2⟩, b3⟩, h⟩ := h
  refine ⟨_, rfl, _, rfl, (x, -400, 400), rfl, _, rfl, ?_⟩
  rw [decide_eq_true (show ((x, -400, 400) : Int × Int × Int).2.1 ≤ ((x, -400, 400) : Int × Int × Int).1 from b1), decide_eq_true (show ((x, -400, 400) : Int × Int × Int).1 ≤ ((x, -400, 400) : Int × Int × Int).2.2 from b2)]
  refine iteF ⟨_, rfl, rfl, _, rfl, iF (vNe b3) ⟨_, rfl, _, _, rfl, rfl, show (0 : Int) < 4 by decide, rfl, _, rfl, ite2 (fun c => ?_) (fun c => ?_)⟩⟩
  · have e := intEq c
    rcases h with ⟨_, h⟩ | ⟨⟨z, _⟩, _⟩
    · exact ⟨_, rfl, (x, true), rfl, b1, b2, h, q _ (Same.refl _)⟩
    · omega
  · rcases h with ⟨z, _⟩ | ⟨⟨e, e2⟩, h⟩
    · exact absurd z (intNe c)
    · refine ⟨_, rfl, _, _, rfl, rfl, show (0 : Int) < 4 by decide, rfl, _, rfl, iT (vEq e) ?_⟩
      refine ⟨_, rfl, _, _, rfl, rfl, div_ok (by decide) (by decide), _, _, rfl, rfl, show (0 : Int) < 4 by decide, by show 2 ≤ sizeLine; decide, fun p np => ?_⟩
      refine ⟨p, _, rfl, .inr (SqT.of upd_same), rfl, rfl, _, rfl, ?_⟩
      have ein : inV (V.int (x / 4 % 4)) [V.int 2, V.int 3] = true := by
        rcases e2 with z | z <;> rw [z] <;> decide
      obtain ⟨d1, d2⟩ := div_small (q := 4) (by decide) (by decide) b1 b2
      refine iteB (iteB0 ein) ?_
      exact ⟨_, rfl, _, _, rfl, rfl, div_ok (by decide) (by decide), (x / 4, true), rfl, d1, d2, h, q _ (same_upd np)⟩

abbrev s_need_sign : Stmt := topS 28
abbrev N_need_sign : List Str := ["sign"]
theorem sc_need_sign : FnScope N_need_sign ["sign"] (defScope s_need_sign) := ⟨rfl, rfl, rfl, by decide +kernel, rfl, by decide +kernel, by decide +kernel⟩
/- [(0, 'sign')] cells [] calls ['is_sign'] -/

abbrev sp_need_sign : Sp := SpF (fun x : Int => [.int x]) fun x H Q => signOkB x = true ∧ ∀ H', Same H H' → Q .non H'
theorem ok_need_sign (F : Fun K "need_sign" "need_sign" s_need_sign f fd) (T : Bl mg) (h_is_sign : Has P w K mg base 3 "is_sign" ["thing"] sp_is_sign) : FnOk P w K mg base CX0 4 f fd ["sign"] sp_need_sign := by
  refine okF F sc_need_sign (fun _ => rfl) fun cdv A outer s H x Q E hr q => ?_
  refine ⟨_, (pss_one (ps_if (pt_not (pt_val (pe_fn h_is_sign (hr.mono (by decide)) (by rfl) (pa_cons (pv 0) pa_nil))))
    (pss_one ps_never)
    pss_nil)), ?_⟩
  obtain ⟨h, q⟩ := q
  exact ⟨_, rfl, x, rfl, h, fun H' sm => ⟨_, rfl, iteF (q H' sm)⟩⟩

abbrev s_sign_for : Stmt := topS 29
abbrev N_sign_for : List Str := ["number", "left", "root"]
theorem sc_sign_for : FnScope N_sign_for ["number"] (defScope s_sign_for) := ⟨rfl, rfl, rfl, by decide +kernel, rfl, by decide +kernel, by decide +kernel⟩
/- [(0, 'number'), (1, 'left'), (2, 'root')] cells [] calls [] -/

abbrev sp_sign_for : Sp := SpF (fun x : Int × Int => [.int x.1]) fun x H Q => -200000 ≤ x.1 ∧ x.1 ≤ 200000 ∧ signF 110 x.1 2 = some x.2 ∧ Q (.int (nrm x.2)) H
theorem ok_sign_for (F : Fun K "sign_for" "sign_for" s_sign_for f fd) (T : Bl mg) : FnOk P w K mg base CX0 1 f fd ["number"] sp_sign_for := by
  refine okF F sc_sign_for (fun _ => rfl) fun cdv A outer s H x Q E hr q => ?_
  refine ⟨_, (pss_cons (ps_par (i := 1) (j := 2) (by rfl) sc_sign_for.nd rfl rfl (by decide) rfl rfl (pa_cons (pv 0) (pa_cons pe_int pa_nil)) (by rfl))
  (pss_cons (ps_while PassesOwn.never (pt_cmpR op_le (pe_op op_mulW (pv 2) (pv 2)) (pe_callB call_abs (by rfl) T.abs (by decide +kernel) (pa_cons (pv 1) pa_nil)) (nomark _))
    (pss_cons (ps_while PassesOwn.never (pt_cmpR op_eq (pe_op op_mod (pv 1) (pe_op op_mulW (pv 2) (pv 2))) pe_int (nomark _))
    (pss_one (ps_set (i := 1) sc_sign_for.nd rfl (.inl rfl) (pe_op op_fdivW (pv 1) (pe_op op_mulW (pv 2) (pv 2))))))
  (pss_one (ps_aug (i := 2) sc_sign_for.nd rfl (.inl rfl) pe_int ip_add))))
  (pss_one (ps_ret (pe_ifExp (pt_cmpR op_eq (pe_op op_mod (pv 1) pe_int) pe_int (nomark _)) (pv 1) (pe_op op_mulW pe_int (pv 1))))))), ?_⟩
  obtain ⟨n0, z0⟩ := x
  obtain ⟨h1, h2, hrun, q⟩ := q
  refine ⟨_, rfl, _, _, rfl, ?_⟩
  refine ⟨fun m σ H' => ∃ (l r : Int), σ = [some (.int n0), some (.int l), some (.int r)] ∧ signF m l r = some z0 ∧ H' = H ∧ 2 ≤ r ∧ r + m ≤ 200 ∧ -200000 ≤ l ∧ l ≤ 200000, ⟨110, n0, 2, rfl, hrun, rfl, by decide, by decide, h1, h2⟩, ?_⟩
  rintro m σ H' ⟨l, r, rfl, hr', rfl, a1, a2, a3, a4⟩
  refine ⟨_, rfl, _, rfl, _, _, rfl, rfl, mul_ok (by omega) (by omega) (by omega) (by omega), _, rfl, _, rfl, _, _, rfl, rfl, _, rfl, ite2 (fun c => ?_) (fun c => ?_)⟩
  · obtain ⟨f', e, rfl, hsq, hr2⟩ := signF_step hr' (of_decide_eq_true c)
    have hq : 0 < r * r := Int.mul_pos (by omega) (by omega)
    have hq2 : r * r ≤ 200 * 200 := Int.mul_le_mul (by omega) (by omega) (by omega) (by decide)
    refine ⟨fun σ H2 => ∃ (l r : Int), σ = [some (.int n0), some (.int l), some (.int r)] ∧ signF f' l r = some z0 ∧ H2 = H' ∧ 2 ≤ r ∧ r + f' ≤ 200 ∧ -200000 ≤ l ∧ l ≤ 200000, fun σ' H2 z => ⟨f', by omega, z⟩, ?_⟩
    refine ⟨fun m2 σ H2 => ∃ l2 : Int, σ = [some (.int n0), some (.int l2), some (.int r)] ∧ sqF m2 (r * r) l2 = some e ∧ H2 = H' ∧ -200000 ≤ l2 ∧ l2 ≤ 200000, ⟨14, l, rfl, hsq, rfl, a3, a4⟩, ?_⟩
    rintro m2 σ H2 ⟨l2, rfl, hs2, rfl, b1, b2⟩
    refine ⟨_, rfl, _, rfl, _, rfl, _, _, rfl, rfl, mul_ok (by omega) (by omega) (by omega) (by omega), _, _, rfl, rfl, hq, rfl, _, rfl, ite2 (fun c2 => ?_) (fun c2 => ?_)⟩
    · obtain ⟨m3, rfl, hs3⟩ := sqF_pos hs2 (intEq c2)
      obtain ⟨d1, d2⟩ := div_small (show 1 ≤ r * r by omega) (by decide) b1 b2
      exact ⟨fun σ H3 => ∃ l2 : Int, σ = [some (.int n0), some (.int l2), some (.int r)] ∧ sqF m3 (r * r) l2 = some e ∧ H3 = H2 ∧ -200000 ≤ l2 ∧ l2 ≤ 200000, fun σ' H3 z => ⟨m3, by omega, z⟩,
        _, rfl, _, rfl, _, rfl, _, _, rfl, rfl, mul_ok (by omega) (by omega) (by omega) (by omega), _, _, rfl, rfl, div_ok hq (by omega), _, rfl, hs3, rfl, d1, d2⟩
    · obtain rfl := sqF_neg hs2 (intNe c2)
      exact ⟨_, rfl, _, _, rfl, rfl, _, r + 1, rfl, hr2, rfl, by omega, by omega, b1, b2⟩
  · obtain rfl := signF_end hr' (fun z => c (decide_eq_true z))
    have q : Q (.int (nrm z0)) H' := q
    unfold nrm at q
    by_cases e : z0 % 4 = 1
    · rw [if_pos e] at q
      exact ⟨_, rfl, _, _, rfl, rfl, show (0 : Int) < 4 by decide, rfl, _, rfl, iT (vEq e) ⟨_, rfl, q⟩⟩
    · rw [if_neg e] at q
      exact ⟨_, rfl, _, _, rfl, rfl, show (0 : Int) < 4 by decide, rfl, _, rfl, iF (vNe e) ⟨_, rfl, _, _, rfl, rfl, mul_ok (by omega) (by omega) (by omega) (by omega), q⟩⟩

abbrev s_joined_sign : Stmt := topS 30
abbrev N_joined_sign : List Str := ["one", "other"]
theorem sc_joined_sign : FnScope N_joined_sign ["one", "other"] (defScope s_joined_sign) := ⟨rfl, rfl, rfl, by decide +kernel, rfl, by decide +kernel, by decide +kernel⟩
/- [(0, 'one'), (1, 'other')] cells [] calls ['need_sign', 'sign_for'] -/

abbrev sp_joined_sign : Sp := SpF (fun x : Int × Int × Int => [.int x.1, .int x.2.1]) fun x H Q => signOkB x.1 = true ∧ signOkB x.2.1 = true ∧ signF 110 (x.1 * x.2.1) 2 = some x.2.2 ∧ ∀ H', Same H H' → Q (.int (nrm x.2.2)) H'
theorem signOk_le {x : Int} (h : signOkB x = true) : -400 ≤ x ∧ x ≤ 400 := by
  unfold signOkB at h
  simp only [Bool.and_eq_true, Bool.or_eq_true, decide_eq_true_eq] at h
  exact h.1.1
theorem mul_400 {x y : Int} (h1 : -400 ≤ x) (h2 : x ≤ 400) (h3 : -400 ≤ y) (h4 : y ≤ 400) : -200000 ≤ x * y ∧ x * y ≤ 200000 := by
  have h : (x * y).natAbs ≤ 400 * 400 := by
    rw [Int.natAbs_mul]
    exact Nat.mul_le_mul (by omega) (by omega)
  omega
theorem ok_joined_sign (F : Fun K "joined_sign" "joined_sign" s_joined_sign f fd) (T : Bl mg) (h_need_sign : Has P w K mg base 4 "need_sign" ["sign"] sp_need_sign) (h_sign_for : Has P w K mg base 1 "sign_for" ["number"] sp_sign_for) :
    FnOk P w K mg base CX0 5 f fd ["one", "other"] sp_joined_sign := by
  refine okF F sc_joined_sign (fun _ => rfl) fun cdv A outer s H x Q E hr q => ?_
  refine ⟨_, (pss_cons (ps_expr (pe_fn h_need_sign (hr.mono (by decide)) (by rfl) (pa_cons (pv 0) pa_nil)))
  (pss_cons (ps_expr (pe_fn h_need_sign (hr.mono (by decide)) (by rfl) (pa_cons (pv 1) pa_nil)))
  (pss_one (ps_ret (pe_fn h_sign_for (hr.mono (by decide)) (by rfl) (pa_cons (pe_op op_mulW (pv 0) (pv 1)) pa_nil)))))), ?_⟩
  obtain ⟨x, y, r⟩ := x
  obtain ⟨h1, h2, h3, q⟩ := q
  obtain ⟨a1, a2⟩ := signOk_le h1
  obtain ⟨b1, b2⟩ := signOk_le h2
  obtain ⟨c1, c2⟩ := mul_400 a1 a2 b1 b2
  exact ⟨_, rfl, x, rfl, h1, fun H1 s1 => ⟨_, rfl, y, rfl, h2, fun H2 s2 => ⟨_, rfl, _, rfl, _, _, rfl, rfl, mul_ok (by omega) (by omega) (by omega) (by omega), (x * y, r), rfl, c1, c2, h3, q H2 (s1.trans s2)⟩⟩⟩
end
end K24
/-! K24, D4: looks at products, sums, starts, weights, levels. -/
namespace K24
open PySem PySem.Spec PyProof.Rows L2
theorem tyT {K : PySem.W.Frag} {H : Hp} {a : Addr} {xs : List V} (h : Rd H a (.tup xs)) : TyX K H (.ref a) (.type "tuple") := by
  rcases h with h | ⟨o, h⟩
  · exact .base (.tup h)
  · exact .fTuple h
theorem tup_tup : kitB "tuple" "tuple" = some true := by decide +kernel
/-- for x in t, x the pair itself -/
theorem for_items {K : PySem.W.Frag} {a : Addr} {ps : Pairs} {g : TG} {tb : TS} {D : Ends} {σ : L2.St} {H : Hp} (Pv : Nat → L2.St → Hp → Prop) (h0 : Pv 0 σ H) (hl : ∀ i σ H, Pv i σ H → PrT H a ps)
    (hs : ∀ i q b σ H, ps[i]? = some q → H b = some (tp q) → Pv i σ H → g (.ref b) σ H fun σ2 H2 => tb { D with nx := Pv (i + 1), ct := Pv (i + 1), bk := D.nx } σ2 H2) (hd : ∀ σ H, Pv ps.length σ H → D.nx σ H) :
    ∃ W : Nat → Nat → L2.St → Hp → Prop, (∃ m, W 0 m σ H) ∧ ∀ i m σ H, W i m σ H →
      ((Itt K a).stop i H ∧ D.nx σ H) ∨ ((Itt K a).go i H ∧ ∃ N : L2.St → Hp → Prop, (∀ σ' H', N σ' H' → ∃ m', m' < m ∧ W (i + 1) m' σ' H') ∧ ∀ v H', (Itt K a).yld i H v H' → g v σ H' fun σ2 H2 => tb { D with nx := N, ct := N, bk := D.nx } σ2 H2) := by
  refine ⟨fun i m σ H => m = ps.length - i ∧ i ≤ ps.length ∧ Pv i σ H, ⟨_, rfl, Nat.zero_le _, h0⟩, ?_⟩
  rintro i m σ H ⟨rfl, hi, p⟩
  obtain ⟨as, ha, hp⟩ := hl i σ H p
  by_cases hlt : i < ps.length
  · obtain ⟨b, eb, hb⟩ := hp.at' (List.getElem?_eq_getElem hlt)
    have eb2 : (as.map V.ref)[i]? = some (.ref b) := by rw [List.getElem?_map, eb]; rfl
    refine .inr ⟨⟨_, _, .inl ha, eb2⟩, Pv (i + 1), fun σ' H' p' => ⟨ps.length - (i + 1), by omega, rfl, hlt, p'⟩, fun v H' y => ?_⟩
    obtain ⟨e, y⟩ := y
    subst e
    obtain rfl : v = .ref b := Option.some.inj ((y _ (.inl ha)).symm.trans eb2)
    exact hs i _ b σ _ (List.getElem?_eq_getElem hlt) hb p
  · have e : i = ps.length := by omega
    subst e
    exact .inl ⟨⟨_, .inl ha, by rw [List.length_map, Paired.len hp]; exact Nat.le_refl _⟩, hd σ H p⟩
theorem drop_at {α : Type} {l : List α} {i : Nat} {q : α} (h : l[i]? = some q) : l.drop i = q :: l.drop (i + 1) := by
  obtain ⟨hlt, e⟩ := List.getElem?_eq_some_iff.mp h
  rw [List.drop_eq_getElem_cons hlt, e]
theorem mem_at {α : Type} {l : List α} {i : Nat} {q : α} (h : l[i]? = some q) : q ∈ l := List.mem_of_getElem? h
theorem map_int {f : Int × Int → Int} (ps : Pairs) : ps.map (fun q => V.int (f q)) = (ps.map f).map V.int := by rw [List.map_map]; rfl
theorem whole_gc {a : Int} {m : Int} (hm : 0 < m) (h : a % m = 0) : a / gcI a m = a / m ∧ m / gcI a m = 1 := by
  have e : a / m * m = a := by rw [Int.mul_comm]; exact div_mul_of h
  have := norm_whole (k := a / m) (y := m) hm
  rw [e] at this
  exact this
def Whole (ps : Pairs) : Prop := powS ps % 2 = 0 ∧ stepS ps % 24 = 0
section
variable {P : Program} {w : World} {K : PySem.W.Frag} {mg : Str → Option Value} {base : Heap} {f : Addr} {fd : FuncData}

abbrev s_is_product_value : Stmt := topS 35
abbrev N_is_product_value : List Str := ["thing", "last", "pair"]
theorem sc_is_product_value : FnScope N_is_product_value ["thing"] (defScope s_is_product_value) := ⟨rfl, rfl, rfl, by decide +kernel, rfl, by decide +kernel, by decide +kernel⟩
/- [(0, 'thing'), (1, 'last'), (2, 'pair')] cells [] calls ['is_between'] -/

abbrev enP (x : Addr × Pairs) : List V := [.ref x.1]
abbrev sp_is_product_value : Sp := SpF enP fun x H Q => PrT H x.1 x.2 ∧ IsProd x.2 ∧ Q (.bl true) H
theorem ok_is_product_value (F : Fun K "is_product_value" "is_product_value" s_is_product_value f fd) (T : Bl mg) (h_is_between : Has P w K mg base 2 "is_between" ["thing", "least", "most"] sp_is_between) :
    FnOk P w K mg base CX0 3 f fd ["thing"] sp_is_product_value := by
  refine okF F sc_is_product_value (fun _ => rfl) fun cdv A outer s H x Q E hr q => ?_
  refine ⟨_, (pss_cons (ps_if (PW.pt (pw_or (pt_not (pt_val (pe_callB call_isi (by rfl) T.isinstance (by decide +kernel) (pa_cons (pv 0) (pa_cons (pe_bltn (v := .ty "tuple") (by rfl) T.tuple (by decide +kernel) rfl) pa_nil))))) (pw_or1 (pt_cmpR op_gt (pe_callB call_len_seq (by rfl) T.len (by decide +kernel) (pa_cons (pv 0) pa_nil)) (pe_globI (by rfl) T.MOST_PAIRS) (nomark _)))))
    (pss_one (ps_ret pe_bl))
    pss_nil)
  (pss_cons (ps_set (i := 1) sc_is_product_value.nd rfl (.inl rfl) pe_int)
  (pss_cons (ps_for PassesOwn.never rfl (pi_tup (pv 0)) (pg_name (i := 2) sc_is_product_value.nd rfl (.inl rfl))
    (pss_cons (ps_if (PW.pt (pw_or (pt_not (pt_val (pe_callB call_isi (by rfl) T.isinstance (by decide +kernel) (pa_cons (pv 2) (pa_cons (pe_bltn (v := .ty "tuple") (by rfl) T.tuple (by decide +kernel) rfl) pa_nil))))) (pw_or (pt_cmpR op_ne (pe_callB call_len_seq (by rfl) T.len (by decide +kernel) (pa_cons (pv 2) pa_nil)) pe_int (nomark _)) (pw_or1 (pt_not (pt_val (pe_fn h_is_between (hr.mono (by decide)) (by rfl) (pa_cons (pe_ix ix_tup (pv 2) pe_int (fun _ _ => rfl)) (pa_cons (pe_op op_add (pv 1) pe_int) (pa_cons (pe_globI (by rfl) T.MOST_STEP) pa_nil))))))))))
    (pss_one (ps_ret pe_bl))
    pss_nil)
  (pss_cons (ps_if (PW.pt (pw_or (pt_not (pt_val (pe_fn h_is_between (hr.mono (by decide)) (by rfl) (pa_cons (pe_ix ix_tup (pv 2) pe_int (fun _ _ => rfl)) (pa_cons (pe_un un_neg (pe_globI (by rfl) T.MOST_POWER)) (pa_cons (pe_globI (by rfl) T.MOST_POWER) pa_nil)))))) (pw_or1 (pt_cmpR op_eq (pe_ix ix_tup (pv 2) pe_int (fun _ _ => rfl)) pe_int (nomark _)))))
    (pss_one (ps_ret pe_bl))
    pss_nil)
  (pss_one (ps_set (i := 1) sc_is_product_value.nd rfl (.inl rfl) (pe_ix ix_tup (pv 2) pe_int (fun _ _ => rfl)))))))
  (pss_one (ps_ret pe_bl))))), ?_⟩
  obtain ⟨a, ps⟩ := x
  obtain ⟨hp, ⟨hlen, hasc, hall⟩, q⟩ := q
  obtain ⟨as, ha, hps⟩ := id hp
  refine ⟨_, rfl, _, _, _, _, true, rfl, .ty "tuple", tyT ha, kit_ty tup_tup, _, rfl, iteF ?_⟩
  refine ⟨_, rfl, a, _, rfl, .inr (.inl ha), _, _, rfl, rfl, _, rfl, ?_⟩
  have e8 : ((as.map V.ref).length : Int) ≤ 8 := by
    have h8 : ps.length ≤ 8 := hlen
    rw [List.length_map, Paired.len hps]
    omega
  refine iF (by omega) ?_
  refine ⟨_, rfl, a, rfl, ⟨_, .inl ha⟩, for_items (ps := ps) (fun i σ H' => ∃ (last : Int) (o : Option V), σ = [some (.ref a), some (.int last), o] ∧ H' = H ∧ (∀ q ∈ ps.drop i, last < q.1) ∧ Asc (ps.drop i)) ⟨0, _, rfl, rfl, fun y hy => by have := (hall y hy).1; omega, hasc⟩ ?_ ?_ ?_⟩
  · rintro i σ H' ⟨_, _, _, rfl, _⟩
    exact hp
  · rintro i y b σ H' hq hb ⟨last, o, rfl, rfl, hl, hA⟩
    rw [drop_at hq] at hl hA
    obtain ⟨c1, c2, c3, c4, c5⟩ := hall y (mem_at hq)
    have c0 := hl y List.mem_cons_self
    have B : SqT K H' b [.int y.1, .int y.2] := SqT.of hb
    refine ⟨_, rfl, _, _, _, _, true, rfl, .ty "tuple", tyT (.inl hb), kit_ty tup_tup, _, rfl, iteF ?_⟩
    refine ⟨_, rfl, b, _, rfl, .inr B, rfl, _, rfl, iteF ?_⟩
    refine ⟨_, rfl, b, _, 0, _, rfl, rfl, B, atI_nat (j := 0) rfl, _, rfl, _, _, rfl, rfl, (y.1, last + 1, 400), rfl, ?_⟩
    refine ⟨_, rfl, ?_⟩
    have t1 : (decide ((y.1, last + 1, (400 : Int)).2.1 ≤ (y.1, last + 1, (400 : Int)).1) && decide ((y.1, last + 1, (400 : Int)).1 ≤ (y.1, last + 1, (400 : Int)).2.2)) = true := by
      rw [decide_eq_true (show (y.1, last + 1, (400 : Int)).2.1 ≤ (y.1, last + 1, (400 : Int)).1 by show last + 1 ≤ y.1; omega), decide_eq_true (show (y.1, last + 1, (400 : Int)).1 ≤ (y.1, last + 1, (400 : Int)).2.2 from c2)]
      rfl
    rw [t1]
    refine iteF ⟨_, rfl, b, _, 1, _, rfl, rfl, B, atI_nat (j := 1) rfl, _, rfl, (y.2, -48, 48), rfl, _, rfl, ?_⟩
    have t2 : (decide ((y.2, (-48 : Int), (48 : Int)).2.1 ≤ (y.2, (-48 : Int), (48 : Int)).1) && decide ((y.2, (-48 : Int), (48 : Int)).1 ≤ (y.2, (-48 : Int), (48 : Int)).2.2)) = true := by
      rw [decide_eq_true (show (y.2, (-48 : Int), (48 : Int)).2.1 ≤ (y.2, (-48 : Int), (48 : Int)).1 from c3), decide_eq_true (show (y.2, (-48 : Int), (48 : Int)).1 ≤ (y.2, (-48 : Int), (48 : Int)).2.2 from c4)]
      rfl
    rw [t2]
    refine iteF ⟨_, rfl, b, _, 1, _, rfl, rfl, B, atI_nat (j := 1) rfl, rfl, _, rfl, iF (vNe c5) ?_⟩
    refine ⟨_, rfl, b, _, 0, _, rfl, rfl, B, atI_nat (j := 0) rfl, y.1, _, rfl, rfl, (List.pairwise_cons.mp hA).1, (List.pairwise_cons.mp hA).2⟩
  · rintro σ H' ⟨_, _, _, rfl, _⟩
    exact q

abbrev s_need_product : Stmt := topS 36
abbrev N_need_product : List Str := ["product"]
theorem sc_need_product : FnScope N_need_product ["product"] (defScope s_need_product) := ⟨rfl, rfl, rfl, by decide +kernel, rfl, by decide +kernel, by decide +kernel⟩
/- [(0, 'product')] cells [] calls ['is_product_value'] -/

abbrev sp_need_product : Sp := SpF enP fun x H Q => PrT H x.1 x.2 ∧ IsProd x.2 ∧ Q .non H
theorem ok_need_product (F : Fun K "need_product" "need_product" s_need_product f fd) (T : Bl mg) (h_is_product_value : Has P w K mg base 3 "is_product_value" ["thing"] sp_is_product_value) :
    FnOk P w K mg base CX0 4 f fd ["product"] sp_need_product := by
  refine okF F sc_need_product (fun _ => rfl) fun cdv A outer s H x Q E hr q => ?_
  refine ⟨_, (pss_one (ps_if (pt_not (pt_val (pe_fn h_is_product_value (hr.mono (by decide)) (by rfl) (pa_cons (pv 0) pa_nil))))
    (pss_one ps_never)
    pss_nil)), ?_⟩
  obtain ⟨hp, hi, q⟩ := q
  exact ⟨_, rfl, x, rfl, hp, hi, _, rfl, iteF q⟩

abbrev s_step_sum : Stmt := topS 37
abbrev N_step_sum : List Str := ["product", "d", "r"]
theorem sc_step_sum : FnScope N_step_sum ["product"] (defScope s_step_sum) := ⟨rfl, rfl, rfl, by decide +kernel, rfl, by decide +kernel, by decide +kernel⟩
/- [(0, 'product'), (1, 'd'), (2, 'r')] cells [] calls [] -/

abbrev sp_step_sum : Sp := SpF enP fun x H Q => PrT H x.1 x.2 ∧ IsProd x.2 ∧ ∀ H', Same H H' → Q (.int (stepS x.2)) H'
theorem len1000 {ps : Pairs} (h : IsProd ps) : ps.length ≤ 1000 := Nat.le_trans h.1 (by decide)
theorem ok_step_sum (F : Fun K "step_sum" "step_sum" s_step_sum f fd) (T : Bl mg) : FnOk P w K mg base CX0 1 f fd ["product"] sp_step_sum := by
  refine okF F sc_step_sum (fun _ => rfl) fun cdv A outer s H x Q E hr q => ?_
  refine ⟨_, (pss_one (ps_ret (pe_callB (cr_sum rfl) (by rfl) T.sum (by decide +kernel) (pa_cons (pe_lc (own := [("d", 1), ("r", 2)]) (g := (gTup K 2 (gCons (gName 1) (gCons (gName 2) gNil)))) rfl sc_step_sum.nd (pi_tup (pv 0)) (blkOk_by (own := [("d", 1), ("r", 2)]) (N := N_step_sum) (sc := defScope s_step_sum) (by decide +kernel)) (fun _ _ _ _ _ => pg_tup rfl (pgs_cons (pg_name (i := 1) sc_step_sum.nd rfl (Or.inl rfl)) (pgs_cons (pg_name (i := 2) sc_step_sum.nd rfl (Or.inl rfl)) pgs_nil))) (fun _ _ _ _ _ => pts_nil) (fun _ _ _ _ _ => (pe_op op_mulW (pv 1) (pv 2)))) pa_nil)))), ?_⟩
  obtain ⟨a, ps⟩ := x
  obtain ⟨hp, hi, q⟩ := q
  refine ⟨_, rfl, a, rfl, hp.sqx, fun D hD => lc_pairs (K := K) hD (fun q => .int (q.1 * q.2)) hp (len1000 hi) (fun _ _ => rfl) (fun q hq H' R sm r => ?_) fun H' sm hd => ?_⟩
  · obtain ⟨c1, c2, c3, c4, c5⟩ := hi.2.2 q hq
    exact ⟨_, rfl, _, rfl, _, _, rfl, rfl, mul_ok (by omega) (by omega) (by omega) (by omega), r⟩
  · rw [map_int (f := fun q => q.1 * q.2)] at hd
    refine ⟨D, _, rfl, SqL.of hd, ?_⟩
    have e : (ps.map fun q => q.1 * q.2).sum = stepS ps := S_map_sum (fun d => d) ps
    rw [e]
    exact q H' sm

abbrev s_power_sum : Stmt := topS 38
abbrev N_power_sum : List Str := ["product", "d", "r"]
theorem sc_power_sum : FnScope N_power_sum ["product"] (defScope s_power_sum) := ⟨rfl, rfl, rfl, by decide +kernel, rfl, by decide +kernel, by decide +kernel⟩
/- [(0, 'product'), (1, 'd'), (2, 'r')] cells [] calls [] -/

abbrev sp_power_sum : Sp := SpF enP fun x H Q => PrT H x.1 x.2 ∧ IsProd x.2 ∧ ∀ H', Same H H' → Q (.int (powS x.2)) H'
theorem ok_power_sum (F : Fun K "power_sum" "power_sum" s_power_sum f fd) (T : Bl mg) : FnOk P w K mg base CX0 1 f fd ["product"] sp_power_sum := by
  refine okF F sc_power_sum (fun _ => rfl) fun cdv A outer s H x Q E hr q => ?_
  refine ⟨_, (pss_one (ps_ret (pe_callB (cr_sum rfl) (by rfl) T.sum (by decide +kernel) (pa_cons (pe_lc (own := [("d", 1), ("r", 2)]) (g := (gTup K 2 (gCons (gName 1) (gCons (gName 2) gNil)))) rfl sc_power_sum.nd (pi_tup (pv 0)) (blkOk_by (own := [("d", 1), ("r", 2)]) (N := N_power_sum) (sc := defScope s_power_sum) (by decide +kernel)) (fun _ _ _ _ _ => pg_tup rfl (pgs_cons (pg_name (i := 1) sc_power_sum.nd rfl (Or.inl rfl)) (pgs_cons (pg_name (i := 2) sc_power_sum.nd rfl (Or.inl rfl)) pgs_nil))) (fun _ _ _ _ _ => pts_nil) (fun _ _ _ _ _ => (pv 2))) pa_nil)))), ?_⟩
  obtain ⟨a, ps⟩ := x
  obtain ⟨hp, hi, q⟩ := q
  refine ⟨_, rfl, a, rfl, hp.sqx, fun D hD => lc_pairs (K := K) hD (fun q => .int q.2) hp (len1000 hi) (fun _ _ => rfl) (fun q hq H' R sm r => ⟨_, rfl, r⟩) fun H' sm hd => ?_⟩
  rw [map_int (f := fun q => q.2)] at hd
  refine ⟨D, _, rfl, SqL.of hd, ?_⟩
  have e : (ps.map fun q => q.2).sum = powS ps := by
    have := S_map_sum (fun _ => 1) ps
    simpa using this
  rw [e]
  exact q H' sm

abbrev s_raw_start : Stmt := topS 39
abbrev N_raw_start : List Str := ["product"]
theorem sc_raw_start : FnScope N_raw_start ["product"] (defScope s_raw_start) := ⟨rfl, rfl, rfl, by decide +kernel, rfl, by decide +kernel, by decide +kernel⟩
/- [(0, 'product')] cells [] calls ['normal', 'step_sum'] -/

abbrev sp_raw_start : Sp := SpF enP fun x H Q => PrT H x.1 x.2 ∧ IsProd x.2 ∧ Whole x.2 ∧ ∀ H' p, Same H H' → H' p = some (tp (stepS x.2 / 24, 1)) → Q (.ref p) H'
theorem ok_raw_start (F : Fun K "raw_start" "raw_start" s_raw_start f fd) (T : Bl mg) (h_step_sum : Has P w K mg base 1 "step_sum" ["product"] sp_step_sum) (h_normal : Has P w K mg base 1 "normal" ["top", "bottom"] sp_normal) :
    FnOk P w K mg base CX0 2 f fd ["product"] sp_raw_start := by
  refine okF F sc_raw_start (fun _ => rfl) fun cdv A outer s H x Q E hr q => ?_
  refine ⟨_, (pss_one (ps_ret (pe_fn h_normal (hr.mono (by decide)) (by rfl) (pa_cons (pe_fn h_step_sum (hr.mono (by decide)) (by rfl) (pa_cons (pv 0) pa_nil)) (pa_cons pe_int pa_nil))))), ?_⟩
  obtain ⟨hp, hi, ⟨_, h24⟩, q⟩ := q
  refine ⟨_, rfl, x, rfl, hp, hi, fun H1 s1 => ⟨(stepS x.2, 24), rfl, (show (0 : Int) < 24 by decide), (show (24 : Int).natAbs < 2 ^ 200 by decide), fun H2 p s2 hp2 => q H2 p (s1.trans s2) ?_⟩⟩
  obtain ⟨e1, e2⟩ := whole_gc (a := stepS x.2) (m := 24) (by decide) h24
  have hp2 : H2 p = some (tp (stepS x.2 / gcI (stepS x.2) 24, 24 / gcI (stepS x.2) 24)) := hp2
  rw [e1, e2] at hp2
  exact hp2

abbrev s_raw_weight : Stmt := topS 40
abbrev N_raw_weight : List Str := ["product"]
theorem sc_raw_weight : FnScope N_raw_weight ["product"] (defScope s_raw_weight) := ⟨rfl, rfl, rfl, by decide +kernel, rfl, by decide +kernel, by decide +kernel⟩
/- [(0, 'product')] cells [] calls ['normal', 'power_sum'] -/

abbrev sp_raw_weight : Sp := SpF enP fun x H Q => PrT H x.1 x.2 ∧ IsProd x.2 ∧ Whole x.2 ∧ ∀ H' p, Same H H' → H' p = some (tp (powS x.2 / 2, 1)) → Q (.ref p) H'
theorem ok_raw_weight (F : Fun K "raw_weight" "raw_weight" s_raw_weight f fd) (T : Bl mg) (h_power_sum : Has P w K mg base 1 "power_sum" ["product"] sp_power_sum) (h_normal : Has P w K mg base 1 "normal" ["top", "bottom"] sp_normal) :
    FnOk P w K mg base CX0 2 f fd ["product"] sp_raw_weight := by
  refine okF F sc_raw_weight (fun _ => rfl) fun cdv A outer s H x Q E hr q => ?_
  refine ⟨_, (pss_one (ps_ret (pe_fn h_normal (hr.mono (by decide)) (by rfl) (pa_cons (pe_fn h_power_sum (hr.mono (by decide)) (by rfl) (pa_cons (pv 0) pa_nil)) (pa_cons pe_int pa_nil))))), ?_⟩
  obtain ⟨hp, hi, ⟨h2, _⟩, q⟩ := q
  refine ⟨_, rfl, x, rfl, hp, hi, fun H1 s1 => ⟨(powS x.2, 2), rfl, (show (0 : Int) < 2 by decide), (show (2 : Int).natAbs < 2 ^ 200 by decide), fun H2 p s2 hp2 => q H2 p (s1.trans s2) ?_⟩⟩
  obtain ⟨e1, e2⟩ := whole_gc (a := powS x.2) (m := 2) (by decide) h2
  have hp2 : H2 p = some (tp (powS x.2 / gcI (powS x.2) 2, 2 / gcI (powS x.2) 2)) := hp2
  rw [e1, e2] at hp2
  exact hp2

abbrev s_is_whole : Stmt := topS 41
abbrev N_is_whole : List Str := ["product"]
theorem sc_is_whole : FnScope N_is_whole ["product"] (defScope s_is_whole) := ⟨rfl, rfl, rfl, by decide +kernel, rfl, by decide +kernel, by decide +kernel⟩
/- [(0, 'product')] cells [] calls ['power_sum', 'step_sum'] -/

abbrev sp_is_whole : Sp := SpF enP fun x H Q => PrT H x.1 x.2 ∧ IsProd x.2 ∧ Whole x.2 ∧ ∀ H', Same H H' → Q (.bl true) H'
theorem ok_is_whole (F : Fun K "is_whole" "is_whole" s_is_whole f fd) (T : Bl mg) (h_step_sum : Has P w K mg base 1 "step_sum" ["product"] sp_step_sum) (h_power_sum : Has P w K mg base 1 "power_sum" ["product"] sp_power_sum) :
    FnOk P w K mg base CX0 2 f fd ["product"] sp_is_whole := by
  refine okF F sc_is_whole (fun _ => rfl) fun cdv A outer s H x Q E hr q => ?_
  refine ⟨_, (pss_one (ps_ret (pe_and (pe_cmpR op_eq (pe_op op_mod (pe_fn h_power_sum (hr.mono (by decide)) (by rfl) (pa_cons (pv 0) pa_nil)) pe_int) pe_int (nomark _)) (pe_one (pe_cmpR op_eq (pe_op op_mod (pe_fn h_step_sum (hr.mono (by decide)) (by rfl) (pa_cons (pv 0) pa_nil)) pe_int) pe_int (nomark _)))))), ?_⟩
  obtain ⟨hp, hi, ⟨h2, h24⟩, q⟩ := q
  refine ⟨_, rfl, x, rfl, hp, hi, fun H1 s1 => ⟨_, _, rfl, rfl, show (0 : Int) < 2 by decide, rfl, _, rfl, iT (vEq h2) ?_⟩⟩
  refine ⟨_, rfl, x, rfl, hp.same s1, hi, fun H2 s2 => ⟨_, _, rfl, rfl, show (0 : Int) < 24 by decide, rfl, ?_⟩⟩
  have e : decide (V.int (stepS x.2 % 24) = V.int 0) = true := decide_eq_true (vEq h24)
  show Q (.bl (decide (V.int (stepS x.2 % 24) = V.int 0))) H2
  rw [e]
  exact q H2 (s1.trans s2)

abbrev s_raw_level : Stmt := topS 42
abbrev N_raw_level : List Str := ["product", "common", "d", "r", "total"]
theorem sc_raw_level : FnScope N_raw_level ["product"] (defScope s_raw_level) := ⟨rfl, rfl, rfl, by decide +kernel, rfl, by decide +kernel, by decide +kernel⟩
/- [(0, 'product'), (1, 'common'), (2, 'd'), (3, 'r'), (4, 'total')] cells ['common'] calls ['is_whole', 'least_multiple'] -/

abbrev sp_raw_level : Sp := SpF enP fun x H Q => PrT H x.1 x.2 ∧ (∃ M, Fit M x.2 ∧ 1 ≤ M ∧ M ≤ 400) ∧ ∀ H', Same H H' → Q (.int (lvl x.2)) H'
theorem Fit.whole {M : Int} {ps : Pairs} (f : Fit M ps) : Whole ps := ⟨f.ev, f.st⟩
theorem lcmF_le {M : Int} {ps : Pairs} (hM : 1 ≤ M) (h : Dv M ps) (i : Nat) : 1 ≤ lcmF 1 (ps.take i) ∧ lcmF 1 (ps.take i) ≤ M := by
  obtain ⟨a, _, _, c⟩ := lcmF_spec (ps := ps.take i) (c := 1) (by decide) fun q hq => (h q (List.mem_of_mem_take hq)).1
  exact ⟨a, Int.le_of_dvd (by omega) (Int.dvd_of_emod_eq_zero (c M (Int.emod_one M) fun q hq => (h q (List.mem_of_mem_take hq)).2))⟩
theorem lcmF_snoc {ps : Pairs} {i : Nat} {q : Int × Int} (h : ps[i]? = some q) : lcmF 1 (ps.take (i + 1)) = lcm1 (lcmF 1 (ps.take i)) q.1 := by
  unfold lcmF
  rw [List.take_add_one, h, List.foldl_append]
  rfl
theorem ok_raw_level (F : Fun K "raw_level" "raw_level" s_raw_level f fd) (T : Bl mg) (h_is_whole : Has P w K mg base 2 "is_whole" ["product"] sp_is_whole) (h_least_multiple : Has P w K mg base 1 "least_multiple" ["one", "other"] sp_least_multiple) :
    FnOk P w K mg base CX0 3 f fd ["product"] sp_raw_level := by
  refine okF F sc_raw_level (fun _ => rfl) fun cdv A outer s H x Q E hr q => ?_
  refine ⟨_, (pss_cons (ps_if (pt_not (pt_val (pe_fn h_is_whole (hr.mono (by decide)) (by rfl) (pa_cons (pv 0) pa_nil))))
    (pss_one (ps_ret pe_non))
    pss_nil)
  (pss_cons (ps_set (i := 1) sc_raw_level.nd rfl (.inr rfl) pe_int)
  (pss_cons (ps_for PassesOwn.never rfl (pi_tup (pv 0)) (pg_tup rfl (pgs_cons (pg_name (i := 2) sc_raw_level.nd rfl (.inl rfl)) (pgs_cons (pg_name (i := 3) sc_raw_level.nd rfl (.inl rfl)) pgs_nil)))
    (pss_one (ps_set (i := 1) sc_raw_level.nd rfl (.inr rfl) (pe_fn h_least_multiple (hr.mono (by decide)) (by rfl) (pa_cons (pv 1) (pa_cons (pv 2) pa_nil))))))
  (pss_cons (ps_set (i := 4) sc_raw_level.nd rfl (.inl rfl) (pe_callB (cr_sum rfl) (by rfl) T.sum (by decide +kernel) (pa_cons (pe_lc (own := [("d", 2), ("r", 3)]) (g := (gTup K 2 (gCons (gName 2) (gCons (gName 3) gNil)))) rfl sc_raw_level.nd (pi_tup (pv 0)) (blkOk_by (own := [("d", 2), ("r", 3)]) (N := N_raw_level) (sc := defScope s_raw_level) (by decide +kernel)) (fun _ _ _ _ _ => pg_tup rfl (pgs_cons (pg_name (i := 2) sc_raw_level.nd rfl (Or.inl rfl)) (pgs_cons (pg_name (i := 3) sc_raw_level.nd rfl (Or.inl rfl)) pgs_nil))) (fun _ _ _ _ _ => pts_nil) (fun _ _ _ _ _ => (pe_op op_mulW (pe_op op_fdivW (pv 1) (pv 2)) (pv 3)))) pa_nil)))
  (pss_one (ps_ret (pe_op op_mulW (pv 1) (pe_op op_fdivW pe_int (pe_callBfun cr_gcd (by rfl) T.gcd (pa_cons pe_int (pa_cons (pv 4) pa_nil))))))))))), ?_⟩
  obtain ⟨a, ps⟩ := x
  obtain ⟨hp, ⟨M, fit, hM1, hM2⟩, q⟩ := q
  have hi := fit.prod hM1 hM2
  refine ⟨_, rfl, (a, ps), rfl, hp, hi, fit.whole, fun H1 s1 => ⟨_, rfl, iteF ?_⟩⟩
  have hp1 := hp.same s1
  refine ⟨_, rfl, a, rfl, hp1.sqx, for_pairs (ps := ps) (fun i σ H' => ∃ (o1 o2 : Option V), σ = [some (.ref a), some (.int (lcmF 1 (ps.take i))), o1, o2, none] ∧ H' = H1) ⟨_, _, rfl, rfl⟩ ?_ ?_ ?_⟩
  · rintro i σ H' ⟨_, _, _, rfl⟩
    exact hp1
  · rintro i q σ H' hq ⟨o1, o2, rfl, rfl⟩
    obtain ⟨c1, c2⟩ := lcmF_le hM1 fit.dv i
    have c1 : 1 ≤ lcmF 1 (ps.take i) := c1
    have c2 : lcmF 1 (ps.take i) ≤ M := c2
    obtain ⟨d1, d2, _⟩ := hi.2.2 q (mem_at hq)
    refine ⟨_, rfl, _, rfl, (lcmF 1 (ps.take i), q.1), rfl, c1, by show lcmF 1 (ps.take i) ≤ 1000000; omega, d1, by show q.1 ≤ 1000000; omega, some (.int q.1), some (.int q.2), ?_, rfl⟩
    rw [lcmF_snoc hq]
    rfl
  · rintro σ H' ⟨o1, o2, rfl, rfl⟩
    have ec : lcmF 1 (ps.take ps.length) = com ps := by rw [List.take_length]; rfl
    rw [ec]
    obtain ⟨c1, c2⟩ := lcmF_le hM1 fit.dv ps.length
    rw [ec] at c1 c2
    refine ⟨_, rfl, a, rfl, hp1.sqx, fun D hD => lc_pairs (K := K) hD (fun q => .int (com ps / q.1 * q.2)) hp1 (len1000 hi) (fun _ _ => rfl) (fun q hq H2 R sm r => ?_) fun H2 sm hd => ?_⟩
    · obtain ⟨d1, d2, d3, d4, d5⟩ := hi.2.2 q hq
      obtain ⟨e1, e2⟩ := div_small (n := com ps) (q := q.1) (B := 400) d1 (by decide) (by omega) (by omega)
      exact ⟨_, rfl, _, rfl, _, _, rfl, rfl, div_ok (by omega) (by omega), _, rfl, _, _, rfl, rfl, mul_ok (by omega) (by omega) (by omega) (by omega), r⟩
    · rw [map_int (f := fun q => com ps / q.1 * q.2)] at hd
      refine ⟨D, _, rfl, SqL.of hd, ?_⟩
      have e : (ps.map fun q => com ps / q.1 * q.2).sum = S (fun d => com ps / d) ps := S_map_sum (fun d => com ps / d) ps
      rw [e]
      obtain ⟨g1, g2, g3, g4⟩ := gc24 (S (fun d => com ps / d) ps)
      have g5 : 24 / gcI 24 (S (fun d => com ps / d) ps) ≤ 24 := Int.ediv_le_self _ (by decide)
      have g6 : 0 ≤ 24 / gcI 24 (S (fun d => com ps / d) ps) := Int.ediv_nonneg (by decide) (by omega)
      refine ⟨_, rfl, _, rfl, 24, S (fun d => com ps / d) ps, rfl, 24, gcI 24 (S (fun d => com ps / d) ps), rfl, rfl, div_ok (by omega) (by omega), _, _, rfl, rfl, mul_ok (by omega) (by omega) (by omega) (by omega), ?_⟩
      exact q H2 (s1.trans sm)

abbrev s_spread_pairs : Stmt := topS 44
abbrev N_spread_pairs : List Str := ["product", "t", "d", "r"]
theorem sc_spread_pairs : FnScope N_spread_pairs ["product", "t"] (defScope s_spread_pairs) := ⟨rfl, rfl, rfl, by decide +kernel, rfl, by decide +kernel, by decide +kernel⟩
/- [(0, 'product'), (1, 't'), (2, 'd'), (3, 'r')] cells ['t'] calls [] -/

abbrev sp_spread_pairs : Sp := SpF (fun x : (Addr × Pairs) × Int => [.ref x.1.1, .int x.2]) fun x H Q => PrT H x.1.1 x.1.2 ∧ IsProd x.1.2 ∧ 1 ≤ x.2 ∧ x.2 ≤ 1000 ∧ ∀ H' p, Same H H' → PrT H' p (spreadM x.2 x.1.2) → Q (.ref p) H'
theorem ok_spread_pairs (F : Fun K "spread_pairs" "spread_pairs" s_spread_pairs f fd) (T : Bl mg) : FnOk P w K mg base CX0 1 f fd ["product", "t"] sp_spread_pairs := by
  refine okF F sc_spread_pairs (fun _ => rfl) fun cdv A outer s H x Q E hr q => ?_
  refine ⟨_, (pss_one (ps_ret (pe_callTy call_tuple_of (by rfl) T.tuple (by decide +kernel) (pa_cons (pe_lc (own := [("d", 2), ("r", 3)]) (g := (gTup K 2 (gCons (gName 2) (gCons (gName 3) gNil)))) rfl sc_spread_pairs.nd (pi_tup (pv 0)) (blkOk_by (own := [("d", 2), ("r", 3)]) (N := N_spread_pairs) (sc := defScope s_spread_pairs) (by decide +kernel)) (fun _ _ _ _ _ => pg_tup rfl (pgs_cons (pg_name (i := 2) sc_spread_pairs.nd rfl (Or.inl rfl)) (pgs_cons (pg_name (i := 3) sc_spread_pairs.nd rfl (Or.inl rfl)) pgs_nil))) (fun _ _ _ _ _ => pts_nil) (fun _ _ _ _ _ => (pe_tup (pa_cons (pe_op op_mulW (pv 1) (pv 2)) (pa_cons (pv 3) pa_nil))))) pa_nil)))), ?_⟩
  obtain ⟨⟨a, ps⟩, t⟩ := x
  obtain ⟨hp, hi, t1, t2, q⟩ := q
  have t1 : 1 ≤ t := t1
  have t2 : t ≤ 1000 := t2
  refine ⟨_, rfl, a, rfl, hp.sqx, fun D hD => lc_mk (K := K) hD (fun q => (t * q.1, q.2)) hp (len1000 hi) (fun _ _ => rfl) (fun q hq H' R sm r => ?_) fun H' sm hd => ?_⟩
  · obtain ⟨c1, c2, c3, c4, c5⟩ := hi.2.2 q hq
    exact ⟨_, rfl, _, rfl, _, _, rfl, rfl, mul_ok (by omega) (by omega) (by omega) (by omega), _, rfl, r⟩
  · obtain ⟨bs, hb, hbs⟩ := hd
    exact ⟨D, _, rfl, .inl ⟨SqL.of hb, fun l nl => q _ l (sm.trans (same_upd nl)) ⟨bs, .inl upd_same, Prs.same (same_upd nl) hbs⟩⟩⟩
end
end K24
/-! K24, D5: the program's sign. -/
namespace K24
open PySem PySem.Spec PyProof.Rows L2
/-- for k in d, d a locked dict of ints -/
theorem for_keysI {d : Addr} {o : Obj} {l : Pairs} {g : TG} {tb : TS} {D : Ends} {σ : L2.St} {H : Hp} (Pv : Nat → L2.St → Hp → Prop) (h0 : Pv 0 σ H) (hl : ∀ i σ H, Pv i σ H → H d = some (.frz o (.dK (toK l))))
    (hs : ∀ i q σ H, l[i]? = some q → Pv i σ H → g (.int q.1) σ H fun σ2 H2 => tb { D with nx := Pv (i + 1), ct := Pv (i + 1), bk := D.nx } σ2 H2) (hd : ∀ σ H, Pv l.length σ H → D.nx σ H) :
    ∃ W : Nat → Nat → L2.St → Hp → Prop, (∃ m, W 0 m σ H) ∧ ∀ i m σ H, W i m σ H →
      ((Itk d o (toK l)).stop i H ∧ D.nx σ H) ∨ ((Itk d o (toK l)).go i H ∧ ∃ N : L2.St → Hp → Prop, (∀ σ' H', N σ' H' → ∃ m', m' < m ∧ W (i + 1) m' σ' H') ∧ ∀ v H', (Itk d o (toK l)).yld i H v H' → g v σ H' fun σ2 H2 => tb { D with nx := N, ct := N, bk := D.nx } σ2 H2) := by
  have ln : (toK l).length = l.length := by unfold toK; rw [List.length_map]
  refine ⟨fun i m σ H => m = l.length - i ∧ i ≤ l.length ∧ Pv i σ H, ⟨_, rfl, Nat.zero_le _, h0⟩, ?_⟩
  rintro i m σ H ⟨rfl, hi, p⟩
  by_cases hlt : i < l.length
  · refine .inr ⟨⟨hl i σ H p, by rw [ln]; exact hlt⟩, Pv (i + 1), fun σ' H' p' => ⟨l.length - (i + 1), by omega, rfl, hlt, p'⟩, fun v H' y => ?_⟩
    obtain ⟨rfl, k, x, e, rfl⟩ := y
    have e2 : (toK l)[i]? = some (kvI l[i]) := by
      unfold toK
      rw [List.getElem?_map, List.getElem?_eq_getElem hlt]
      rfl
    have e3 := Option.some.inj (e.symm.trans e2)
    have ek : k = .inl l[i].1 := congrArg Prod.fst e3
    subst ek
    exact hs i _ σ _ (List.getElem?_eq_getElem hlt) p
  · have e : i = l.length := by omega
    subst e
    exact .inl ⟨⟨hl _ σ H p, by rw [ln]; exact Nat.le_refl _⟩, hd σ H p⟩
theorem getD_int (o : Option Int) : (o.map V.int).getD (.int 0) = .int (o.getD 0) := by cases o <;> rfl
theorem cnt_append (p : Int) (a b : List Int) : cnt p (a ++ b) = cnt p a + cnt p b := by
  unfold cnt
  rw [List.filter_append, List.length_append]
  omega
theorem cnt_rep (q p : Int) (c : Nat) : cnt q (List.replicate c p) = if q = p then (c : Int) else 0 := by
  unfold cnt
  rw [List.filter_replicate]
  by_cases h : q = p
  · rw [if_pos (by simp [h]), if_pos h, List.length_replicate]
  · rw [if_neg (by simp; exact fun z => h z.symm), if_neg h]
    rfl
theorem togF_cons {p n : Int} {L l : List Int} (h : togF (p :: L) n = some l) : ∃ c e l2, dropF 9 p n = some (c, e) ∧ togF L e = some l2 ∧ l = List.replicate c p ++ l2 := by
  unfold togF at h
  cases d : dropF 9 p n with
  | none => rw [d] at h; cases h
  | some x =>
    obtain ⟨c, e⟩ := x
    rw [d] at h
    have h' : (togF L e).map (fun l => List.replicate c p ++ l) = some l := h
    cases k : togF L e with
    | none => rw [k] at h'; cases h'
    | some l2 =>
      rw [k] at h'
      cases h'
      exact ⟨c, e, l2, rfl, k, rfl⟩
theorem val_one : ∀ p ∈ P23, val p 1 = 0 := by decide
theorem mul_big {i j : Int} (h1 : i.natAbs < 2 ^ 64) (h2 : j.natAbs < 2 ^ 64) : CMulW i j := wide_mul (a := 64) (b := 64) h1 h2 (by decide) (by decide) (by decide)
theorem take_S {f : Int → Int} {ps : Pairs} {i : Nat} {q : Int × Int} (h : ps[i]? = some q) : S f (ps.take (i + 1)) = S f (ps.take i) + f q.1 * q.2 := by
  rw [List.take_add_one, h, S_append]
  simp [S]
/-- the number that is factored at a pair -/
def leftOf (q : Int × Int) : Int := if q.2 % 2 = 1 then q.1 else 1
theorem par_left {q : Int × Int} {p s : Int} (hp : p ∈ P23) : (s + val p (leftOf q)) % 2 = (s + val p q.1 * q.2) % 2 := by
  unfold leftOf
  by_cases h : q.2 % 2 = 1
  · rw [if_pos h]
    generalize val p q.1 = v
    have hm : (v * q.2) % 2 = (v % 2) * (q.2 % 2) % 2 := Int.mul_emod _ _ _
    rw [h] at hm
    omega
  · rw [if_neg h, val_one p hp]
    generalize val p q.1 = v
    have hm : (v * q.2) % 2 = (v % 2) * (q.2 % 2) % 2 := Int.mul_emod _ _ _
    have : q.2 % 2 = 0 := by omega
    rw [this] at hm
    omega
/-- the products whose signs are taken -/
def Sgn (ps : Pairs) : Prop := ∀ q ∈ ps, 1 ≤ q.1 ∧ q.1 ≤ 144 ∧ PP % q.1 = 0
theorem eps_small (ps : Pairs) : epsM ps = 1 ∨ epsM ps = -1 := by
  unfold epsM
  split <;> simp
theorem found_small {e : Int} {l : Pairs} (he : e = 1 ∨ e = -1) (h : ∀ q ∈ l, q.1 ∈ P23 ∧ (q.2 = 0 ∨ q.2 = 1)) (hl : l.length ≤ 9) : (e * facs l).natAbs < 2 ^ 60 := by
  obtain ⟨a, b⟩ := facs_le h
  have k : ∀ n, n < 10 → (23 : Int) ^ n ≤ 23 ^ 9 := by decide
  have c := k l.length (by omega)
  have d : (23 : Int) ^ 9 = 1801152661463 := by decide
  rcases he with rfl | rfl <;> omega
section
variable {P : Program} {w : World} {K : PySem.W.Frag} {mg : Str → Option Value} {base : Heap} {f : Addr} {fd : FuncData}

abbrev s_raw_sign : Stmt := topS 43
abbrev N_raw_sign : List Str := ["product", "met", "d", "r", "found", "prime", "left"]
theorem sc_raw_sign : FnScope N_raw_sign ["product"] (defScope s_raw_sign) := ⟨rfl, rfl, rfl, by decide +kernel, rfl, by decide +kernel, by decide +kernel⟩
/- [(0, 'product'), (1, 'met'), (2, 'd'), (3, 'r'), (4, 'found'), (5, 'prime'), (6, 'left')] cells [] calls ['power_sum', 'primes_of'] -/

abbrev sp_raw_sign : Sp := SpF enP fun x H Q => PrT H x.1 x.2 ∧ IsProd x.2 ∧ Sgn x.2 ∧ ∀ H', Same H H' → Q (.int (signM x.2)) H'
theorem ok_raw_sign (F : Fun K "raw_sign" "raw_sign" s_raw_sign f fd) (T : Bl mg) (h_power_sum : Has P w K mg base 1 "power_sum" ["product"] sp_power_sum) (h_primes_of : Has P w K mg base 1 "primes_of" ["number"] sp_primes_of) :
    FnOk P w K mg base CX0 2 f fd ["product"] sp_raw_sign := by
  refine okF F sc_raw_sign (fun _ => rfl) fun cdv A outer s H x Q E hr q => ?_
  refine ⟨_, (pss_cons (ps_set (i := 1) sc_raw_sign.nd rfl (.inl rfl) pe_dnewK)
  (pss_cons (ps_for PassesOwn.never rfl (pi_tup (pv 0)) (pg_tup rfl (pgs_cons (pg_name (i := 2) sc_raw_sign.nd rfl (.inl rfl)) (pgs_cons (pg_name (i := 3) sc_raw_sign.nd rfl (.inl rfl)) pgs_nil)))
    (C8.pss_cut (ps_set (i := 6) sc_raw_sign.nd rfl (.inl rfl) (pe_ifExp (pt_cmpR op_eq (pe_op op_mod (pv 3) pe_int) pe_int (nomark _)) (pv 2) pe_int))
  (pss_one (ps_for PassesOwn.never rfl (pi_list (pe_fn h_primes_of (hr.mono (by decide)) (by rfl) (pa_cons (pv 6) pa_nil))) (pg_name (i := 5) sc_raw_sign.nd rfl (.inl rfl))
    (pss_one (ps_while PassesOwn.never (pt_cmpR op_eq (pe_op op_mod (pv 6) (pv 5)) pe_int (nomark _))
    (pss_cons (ps_dput (hu_of hr) (pv 1) (pv 5) (pe_op op_sub pe_int (pe_dget2 (hu_of hr) (pv 1) (pv 5) pe_int ⟨rfl, rfl, rfl, rfl⟩)) rfl)
  (pss_one (ps_set (i := 6) sc_raw_sign.nd rfl (.inl rfl) (pe_op op_fdivW (pv 6) (pv 5)))))))))))
  (C8.pss_cut (ps_set (i := 4) sc_raw_sign.nd rfl (.inl rfl) (pe_ifExp (pt_cmpR op_eq (pe_op op_mod (pe_op op_fdivW (pe_fn h_power_sum (hr.mono (by decide)) (by rfl) (pa_cons (pv 0) pa_nil)) pe_int) pe_int) pe_int (nomark _)) (pe_un un_neg pe_int) pe_int))
  (pss_cons (ps_lock (ps_for PassesOwn.never rfl (pi_keys (pv 1)) (pg_name (i := 5) sc_raw_sign.nd rfl (.inl rfl))
    (pss_one (ps_if (pt_cmpR op_eq (pe_dget (hu_of hr) (pv 1) (pv 5) (fun _ _ => rfl)) pe_int (nomark _))
    (pss_one (ps_set (i := 4) sc_raw_sign.nd rfl (.inl rfl) (pe_op op_mulW (pv 4) (pv 5))))
    pss_nil))))
  (pss_one (ps_ret (pe_ifExp (pt_cmpR op_eq (pe_op op_mod (pv 4) pe_int) pe_int (nomark _)) (pv 4) (pe_op op_mulW pe_int (pv 4))))))))), ?_⟩
  obtain ⟨a, ps⟩ := x
  obtain ⟨hp, hi, hs, qQ⟩ := q
  refine fun m nm => ?_
  refine ⟨_, rfl, a, rfl, (hp.same (same_upd nm)).sqx, for_pairs (ps := ps) (fun i σ H' => ∃ (o2 o3 o5 o6 : Option V) (kvs : Pairs), σ = [some (.ref a), some (.ref m), o2, o3, none, o5, o6] ∧ Same H H' ∧ DiI H' m kvs ∧ Met kvs (fun p => S (val p) (ps.take i)))
    ⟨_, _, _, _, [], rfl, same_upd nm, upd_same, Met.nil⟩ ?_ ?_ ?_⟩
  · rintro i σ H' ⟨_, _, _, _, _, _, sm, _⟩
    exact hp.same sm
  · rintro i q σ H' hq ⟨o2, o3, o5, o6, kvs, rfl, sm, hD, hM⟩
    obtain ⟨s1, s2, s3⟩ := hs q (mem_at hq)
    -- left = d if r % 2 == 1 else 1
    refine ⟨fun σ' H2 => σ' = [some (.ref a), some (.ref m), some (.int q.1), some (.int q.2), none, o5, some (.int (leftOf q))] ∧ H2 = H', ?_, ?_⟩
    · refine ⟨_, rfl, _, _, rfl, rfl, show (0 : Int) < 2 by decide, rfl, _, rfl, ite2 (fun c => ?_) (fun c => ?_)⟩
      · refine ⟨_, rfl, ?_, rfl⟩
        unfold leftOf
        rw [if_pos (intEq c)]
        rfl
      · refine ⟨?_, rfl⟩
        unfold leftOf
        rw [if_neg (intNe c)]
        rfl
    · rintro σ' H2 ⟨rfl, rfl⟩
      have l1 : 1 ≤ leftOf q := by unfold leftOf; split <;> omega
      have l2 : leftOf q ≤ 144 := by unfold leftOf; split <;> omega
      have l3 : PP % leftOf q = 0 := by
        unfold leftOf
        split
        · exact s3
        · exact Int.emod_one PP
      obtain ⟨⟨L, l, rp, hL, rt, tk⟩, _⟩ := runs_of l1 l2 l3
      refine ⟨_, rfl, (leftOf q, L), rfl, l1, l2, rp, fun H3 lst s3' nl hl => ⟨lst, rfl, ⟨_, SqL.of hl⟩, for_list (xs := L.map V.int) (fun j σ H4 => ∃ (o5 : Option V) (n : Int) (kvs : Pairs) (l' : List Int), σ = [some (.ref a), some (.ref m), some (.int q.1), some (.int q.2), none, o5, some (.int n)] ∧ Same H H4 ∧ H4 lst = some (.lst (L.map V.int)) ∧
          DiI H4 m kvs ∧ togF (L.drop j) n = some l' ∧ (∀ x ∈ l', x ∈ P23) ∧ 1 ≤ n ∧ n ≤ 144 ∧ Met kvs (fun p => S (val p) (ps.take i) + cnt p l - cnt p l'))
        ⟨o5, _, kvs, l, rfl, sm.trans s3', hl, s3' _ _ hD, rt, tk.1, l1, l2, hM.congr fun p _ => by omega⟩ ?_ ?_ ?_⟩⟩
      · rintro j σ H4 _ ⟨_, _, _, _, _, _, h, _⟩
        exact SqL.of h
      · rintro j v σ H4 hv ⟨o5', n, kvs', l', rfl, sm4, hl4, hD4, ht, htP, n1, n2, hM4⟩
        rw [List.getElem?_map] at hv
        obtain ⟨p, hp', rfl⟩ := Option.map_eq_some_iff.mp hv
        rw [drop_at hp'] at ht
        obtain ⟨c, e, l'', hd, ht2, rfl⟩ := togF_cons ht
        obtain ⟨pb1, pb2⟩ := hL p (mem_at hp')
        refine ⟨fun m2 σ H5 => ∃ (n2 : Int) (c2 : Nat) (kvs2 : Pairs), σ = [some (.ref a), some (.ref m), some (.int q.1), some (.int q.2), none, some (.int p), some (.int n2)] ∧ Same H H5 ∧ H5 lst = some (.lst (L.map V.int)) ∧ DiI H5 m kvs2 ∧ dropF m2 p n2 = some (c2, e) ∧ (c2 ≠ 0 → p ∈ P23) ∧ 1 ≤ n2 ∧ n2 ≤ 144 ∧
            Met kvs2 (fun x => S (val x) (ps.take i) + cnt x l - ((if x = p then (c2 : Int) else 0) + cnt x l'')), ⟨9, n, c, kvs', rfl, sm4, hl4, hD4, hd, fun z => htP p (List.mem_append_left _ (List.mem_replicate.mpr ⟨z, rfl⟩)), n1, n2, hM4.congr fun x _ => by rw [cnt_append, cnt_rep]⟩, ?_⟩
        rintro m2 σ H5 ⟨n3, c2, kvs2, rfl, sm5, hl5, hD5, hd5, hP5, b1, b2, hM5⟩
        refine ⟨_, rfl, _, rfl, _, _, rfl, rfl, (by omega : (0 : Int) < p), rfl, _, rfl, ite2 (fun cc => ?_) (fun cc => ?_)⟩
        · obtain ⟨m3, c3, rfl, rfl, hd6⟩ := dropF_pos hd5 (intEq cc)
          have pP := hP5 (Nat.succ_ne_zero _)
          obtain ⟨d1, d2⟩ := div_ge1 b1 (show 1 ≤ p by omega) (intEq cc)
          have k9 := hM5.length
          refine ⟨fun σ H5 => ∃ (n2 : Int) (c2 : Nat) (kvs2 : Pairs), σ = [some (.ref a), some (.ref m), some (.int q.1), some (.int q.2), none, some (.int p), some (.int n2)] ∧ Same H H5 ∧ H5 lst = some (.lst (L.map V.int)) ∧ DiI H5 m kvs2 ∧ dropF m3 p n2 = some (c2, e) ∧ (c2 ≠ 0 → p ∈ P23) ∧ 1 ≤ n2 ∧ n2 ≤ 144 ∧
            Met kvs2 (fun x => S (val x) (ps.take i) + cnt x l - ((if x = p then (c2 : Int) else 0) + cnt x l'')), fun σ' H5 z => ⟨m3, by omega, z⟩, ?_⟩
          refine ⟨_, rfl, m, rfl, .inl ⟨_, .inl hD5⟩, _, rfl, _, DiI.get hD5 p, 1, (getI kvs2 p).getD 0, rfl, getD_int _, _, rfl, _, rfl, m, _, rfl, DiI.put hD5 p _ (by omega), ?_⟩
          have lm : lst ≠ m := ne_of hl5 hD5 (by intro z; cases z)
          refine ⟨_, rfl, _, rfl, _, _, rfl, rfl, div_ok (by omega) (by omega), n3 / p, c3, _, rfl, fun b o z => ?_, ?_, upd_same, hd6, fun _ => pP, d1, by omega, (hM5.toggle pP).congr fun x _ => ?_⟩
          · rw [upd_ne (ne_of_none z nm)]
            exact sm5 b o z
          · rw [upd_ne lm]
            exact hl5
          · by_cases xp : x = p
            · rw [if_pos xp, if_pos xp, if_pos xp]
              omega
            · rw [if_neg xp, if_neg xp, if_neg xp]
              omega
        · obtain ⟨rfl, rfl⟩ := dropF_neg hd5 (intNe cc)
          exact ⟨some (.int p), _, kvs2, l'', rfl, sm5, hl5, hD5, ht2, fun x hx => htP x (List.mem_append_right _ hx), b1, b2, hM5.congr fun x _ => by
            split <;> omega⟩
      · rintro σ H4 ⟨o5', n, kvs', l', rfl, sm4, _, hD4, ht, _, _, _, hM4⟩
        rw [List.length_map, List.drop_length] at ht
        have e : l' = [] := by
          unfold togF at ht
          cases ht
          rfl
        subst e
        refine ⟨_, _, _, _, kvs', rfl, sm4, hD4, hM4.congr fun p hp' => ?_⟩
        rw [take_S hq, tk.2 p hp']
        have := par_left (q := q) (s := S (val p) (ps.take i)) hp'
        have z : cnt p [] = 0 := rfl
        omega
  · rintro σ H' ⟨o2, o3, o5, o6, kvs, rfl, sm, hD, hM⟩
    rw [List.take_length] at hM
    refine ⟨fun σ' H2 => ∃ H3, Same H H2 ∧ DiI H2 m kvs ∧ σ' = [some (.ref a), some (.ref m), o2, o3, some (.int (epsM ps)), o5, o6] ∧ H3 = H2, ?_, ?_⟩
    · refine ⟨_, rfl, (a, ps), rfl, hp.same sm, hi, fun H2 s2 => ⟨_, _, rfl, rfl, div_ok (by decide) (by decide), _, _, rfl, rfl, show (0 : Int) < 2 by decide, rfl, _, rfl, ite2 (fun c => ?_) (fun c => ?_)⟩⟩
      · refine ⟨1, rfl, H2, sm.trans s2, s2 _ _ hD, ?_, rfl⟩
        unfold epsM
        rw [if_pos (intEq c)]
        rfl
      · refine ⟨H2, sm.trans s2, s2 _ _ hD, ?_, rfl⟩
        unfold epsM
        rw [if_neg (intNe c)]
        rfl
    · rintro σ' H2 ⟨_, sm2, hD2, rfl, _⟩
      have eps := eps_small ps
      refine ⟨m, _, hD2, True.intro, fun od => ⟨_, rfl, m, od, rfl, .inl ⟨_, upd_same, for_keysI (l := kvs) (fun i σ H3 => ∃ (o5 : Option V), σ = [some (.ref a), some (.ref m), o2, o3, some (.int (epsM ps * facs (kvs.take i))), o5, o6] ∧ H3 = upd H2 m (.frz od (.dK (toK kvs)))) ⟨o5, by
        show _ = [some (V.ref a), some (V.ref m), o2, o3, some (V.int (epsM ps * 1)), o5, o6]
        rw [Int.mul_one], rfl⟩ ?_ ?_ ?_⟩⟩⟩
      · rintro i σ H3 ⟨_, _, rfl⟩
        exact upd_same
      · rintro i q σ H3 hq ⟨o5, rfl, rfl⟩
        have gq : getI kvs q.1 = some q.2 := getI_of_mem hM.nd (mem_at hq)
        have g1 := DiI.getF (H := upd H2 m (.frz od (.dK (toK kvs)))) (a := m) (l := kvs) upd_same q.1
        rw [gq] at g1
        have fs : facs (kvs.take (i + 1)) = facs (kvs.take i) * fac q := by rw [List.take_add_one, hq]; exact facs_snoc _ q
        have k9 := hM.length
        have okT : ∀ x ∈ kvs.take i, x.1 ∈ P23 ∧ (x.2 = 0 ∨ x.2 = 1) := fun x hx => hM.ok x (List.mem_of_mem_take hx)
        have sm60 := found_small eps okT (by rw [List.length_take]; omega)
        have q23 : q.1.natAbs < 2 ^ 60 := by
          have k : ∀ p ∈ P23, p.natAbs < 2 ^ 60 := by decide
          exact k _ (hM.ok q (mem_at hq)).1
        refine ⟨_, rfl, _, rfl, m, _, rfl, g1, rfl, _, rfl, ite2 (fun c => ?_) (fun c => ?_)⟩
        · refine ⟨_, rfl, _, rfl, _, _, rfl, rfl, mul_big (Nat.lt_trans sm60 (by decide)) (Nat.lt_trans q23 (by decide)), some (.int q.1), ?_, rfl⟩
          rw [fs, ← Int.mul_assoc]
          unfold fac
          rw [if_pos (intEq c)]
          rfl
        · refine ⟨some (.int q.1), ?_, rfl⟩
          rw [fs]
          unfold fac
          rw [if_neg (intNe c), Int.mul_one]
          rfl
      · rintro σ H3 ⟨o5, rfl, rfl⟩
        refine ⟨upd_same, ?_⟩
        rw [upd_upd, List.take_length, hM.facs]
        have back : Same H (upd H2 m (.dK (toK kvs))) := fun b o z => by
          rw [upd_ne (ne_of_none z nm)]
          exact sm2 b o z
        have bd := found_small eps (l := kvs) hM.ok hM.length
        rw [hM.facs] at bd
        have fin := qQ _ back
        have e1 : signM ps = nrm (epsM ps * mQ P23 (eP ps)) := rfl
        have e2 : mQ P23 (fun p => S (val p) ps) = mQ P23 (eP ps) := rfl
        rw [e2] at bd ⊢
        have fin : Q (.int (nrm (epsM ps * mQ P23 (eP ps)))) (upd H2 m (.dK (toK kvs))) := fin
        unfold nrm at fin
        generalize epsM ps * mQ P23 (eP ps) = z at *
        by_cases e : z % 4 = 1
        · rw [if_pos e] at fin
          exact ⟨_, rfl, _, _, rfl, rfl, show (0 : Int) < 4 by decide, rfl, _, rfl, iT (vEq e) ⟨_, rfl, fin⟩⟩
        · rw [if_neg e] at fin
          exact ⟨_, rfl, _, _, rfl, rfl, show (0 : Int) < 4 by decide, rfl, _, rfl, iF (vNe e) ⟨_, rfl, _, _, rfl, rfl, mul_big (by decide) (Nat.lt_trans bd (by decide)), fin⟩⟩
end
end K24
/-! K24, D6: products. -/
namespace K24
open PySem PySem.Spec PyProof.Rows L2
theorem map_bl {f : Int × Int → Bool} (ps : Pairs) : ps.map (fun q => V.bl (f q)) = (ps.map f).map V.bl := by rw [List.map_map]; rfl
theorem all_id {f : Int × Int → Bool} {ps : Pairs} (h : ∀ q ∈ ps, f q = true) : (ps.map f).all id = true := by
  rw [List.all_eq_true]
  intro b hb
  obtain ⟨q, hq, rfl⟩ := List.mem_map.mp hb
  exact h q hq
theorem any_id {f : Int × Int → Bool} {ps : Pairs} (h : ∀ q ∈ ps, f q = false) : (ps.map f).any id = false := by
  rw [List.any_eq_false]
  intro b hb
  obtain ⟨q, hq, rfl⟩ := List.mem_map.mp hb
  rw [h q hq]
  decide
section
variable {P : Program} {w : World} {K : PySem.W.Frag} {mg : Str → Option Value} {base : Heap} {f : Addr} {fd : FuncData}

abbrev s_start_of : Stmt := topS 46
abbrev N_start_of : List Str := ["product"]
theorem sc_start_of : FnScope N_start_of ["product"] (defScope s_start_of) := ⟨rfl, rfl, rfl, by decide +kernel, rfl, by decide +kernel, by decide +kernel⟩
/- [(0, 'product')] cells [] calls ['need_product', 'raw_start'] -/

theorem ok_start_of (F : Fun K "start_of" "start_of" s_start_of f fd) (T : Bl mg) (h_need_product : Has P w K mg base 4 "need_product" ["product"] sp_need_product) (h_raw_start : Has P w K mg base 2 "raw_start" ["product"] sp_raw_start) :
    FnOk P w K mg base CX0 5 f fd ["product"] sp_raw_start := by
  refine okF F sc_start_of (fun _ => rfl) fun cdv A outer s H x Q E hr q => ?_
  refine ⟨_, (pss_cons (ps_expr (pe_fn h_need_product (hr.mono (by decide)) (by rfl) (pa_cons (pv 0) pa_nil)))
  (pss_one (ps_ret (pe_fn h_raw_start (hr.mono (by decide)) (by rfl) (pa_cons (pv 0) pa_nil))))), ?_⟩
  obtain ⟨hp, hi, hw, q⟩ := q
  exact ⟨_, rfl, x, rfl, hp, hi, _, rfl, x, rfl, hp, hi, hw, q⟩

abbrev s_product_weight : Stmt := topS 47
abbrev N_product_weight : List Str := ["product"]
theorem sc_product_weight : FnScope N_product_weight ["product"] (defScope s_product_weight) := ⟨rfl, rfl, rfl, by decide +kernel, rfl, by decide +kernel, by decide +kernel⟩
/- [(0, 'product')] cells [] calls ['need_product', 'raw_weight'] -/

theorem ok_product_weight (F : Fun K "product_weight" "product_weight" s_product_weight f fd) (T : Bl mg) (h_need_product : Has P w K mg base 4 "need_product" ["product"] sp_need_product) (h_raw_weight : Has P w K mg base 2 "raw_weight" ["product"] sp_raw_weight) :
    FnOk P w K mg base CX0 5 f fd ["product"] sp_raw_weight := by
  refine okF F sc_product_weight (fun _ => rfl) fun cdv A outer s H x Q E hr q => ?_
  refine ⟨_, (pss_cons (ps_expr (pe_fn h_need_product (hr.mono (by decide)) (by rfl) (pa_cons (pv 0) pa_nil)))
  (pss_one (ps_ret (pe_fn h_raw_weight (hr.mono (by decide)) (by rfl) (pa_cons (pv 0) pa_nil))))), ?_⟩
  obtain ⟨hp, hi, hw, q⟩ := q
  exact ⟨_, rfl, x, rfl, hp, hi, _, rfl, x, rfl, hp, hi, hw, q⟩

abbrev s_do_divide : Stmt := topS 48
abbrev N_do_divide : List Str := ["product", "level", "d", "r"]
theorem sc_do_divide : FnScope N_do_divide ["product", "level"] (defScope s_do_divide) := ⟨rfl, rfl, rfl, by decide +kernel, rfl, by decide +kernel, by decide +kernel⟩
/- [(0, 'product'), (1, 'level'), (2, 'd'), (3, 'r')] cells ['level'] calls [] -/

abbrev enPN (x : (Addr × Pairs) × Int) : List V := [.ref x.1.1, .int x.2]
abbrev sp_do_divide : Sp := SpF enPN fun x H Q => PrT H x.1.1 x.1.2 ∧ IsProd x.1.2 ∧ (∀ q ∈ x.1.2, x.2 % q.1 = 0) ∧ ∀ H', Same H H' → Q (.bl true) H'
theorem ok_do_divide (F : Fun K "do_divide" "do_divide" s_do_divide f fd) (T : Bl mg) : FnOk P w K mg base CX0 1 f fd ["product", "level"] sp_do_divide := by
  refine okF F sc_do_divide (fun _ => rfl) fun cdv A outer s H x Q E hr q => ?_
  refine ⟨_, (pss_one (ps_ret (pe_callB (cr_all rfl) (by rfl) T.all (by decide +kernel) (pa_cons (pe_lc (own := [("d", 2), ("r", 3)]) (g := (gTup K 2 (gCons (gName 2) (gCons (gName 3) gNil)))) rfl sc_do_divide.nd (pi_tup (pv 0)) (blkOk_by (own := [("d", 2), ("r", 3)]) (N := N_do_divide) (sc := defScope s_do_divide) (by decide +kernel)) (fun _ _ _ _ _ => pg_tup rfl (pgs_cons (pg_name (i := 2) sc_do_divide.nd rfl (Or.inl rfl)) (pgs_cons (pg_name (i := 3) sc_do_divide.nd rfl (Or.inl rfl)) pgs_nil))) (fun _ _ _ _ _ => pts_nil) (fun _ _ _ _ _ => (pe_cmpR op_eq (pe_op op_mod (pv 1) (pv 2)) pe_int (nomark _)))) pa_nil)))), ?_⟩
  obtain ⟨⟨a, ps⟩, N⟩ := x
  obtain ⟨hp, hi, hd, q⟩ := q
  refine ⟨_, rfl, a, rfl, hp.sqx, fun D hD => lc_pairs (K := K) hD (fun q => .bl (decide (V.int (N % q.1) = V.int 0))) hp (len1000 hi) (fun _ _ => rfl) (fun q hq H' R sm r => ?_) fun H' sm hd' => ?_⟩
  · obtain ⟨c1, _⟩ := hi.2.2 q hq
    exact ⟨_, rfl, _, rfl, _, _, rfl, rfl, (by omega : (0 : Int) < q.1), rfl, r⟩
  · rw [map_bl (f := fun q => decide (V.int (N % q.1) = V.int 0))] at hd'
    refine ⟨D, _, rfl, SqL.of hd', ?_⟩
    rw [all_id fun q hq => decide_eq_true (vEq (hd q hq))]
    exact q H' sm

abbrev s_does_fit : Stmt := topS 49
abbrev N_does_fit : List Str := ["product", "level", "d", "r"]
theorem sc_does_fit : FnScope N_does_fit ["product", "level"] (defScope s_does_fit) := ⟨rfl, rfl, rfl, by decide +kernel, rfl, by decide +kernel, by decide +kernel⟩
/- [(0, 'product'), (1, 'level'), (2, 'd'), (3, 'r')] cells ['level'] calls ['do_divide', 'need_level', 'need_product', 'power_sum', 'step_sum'] -/

abbrev sp_does_fit : Sp := SpF enPN fun x H Q => PrT H x.1.1 x.1.2 ∧ Fit x.2 x.1.2 ∧ 1 ≤ x.2 ∧ x.2 ≤ 400 ∧ ∀ H', Same H H' → Q (.bl true) H'
theorem ok_does_fit (F : Fun K "does_fit" "does_fit" s_does_fit f fd) (T : Bl mg) (h_need_product : Has P w K mg base 4 "need_product" ["product"] sp_need_product) (h_need_level : Has P w K mg base 4 "need_level" ["level"] sp_need_level)
    (h_do_divide : Has P w K mg base 1 "do_divide" ["product", "level"] sp_do_divide) (h_power_sum : Has P w K mg base 1 "power_sum" ["product"] sp_power_sum) (h_step_sum : Has P w K mg base 1 "step_sum" ["product"] sp_step_sum) :
    FnOk P w K mg base CX0 5 f fd ["product", "level"] sp_does_fit := by
  refine okF F sc_does_fit (fun _ => rfl) fun cdv A outer s H x Q E hr q => ?_
  refine ⟨_, (pss_cons (ps_expr (pe_fn h_need_product (hr.mono (by decide)) (by rfl) (pa_cons (pv 0) pa_nil)))
  (pss_cons (ps_expr (pe_fn h_need_level (hr.mono (by decide)) (by rfl) (pa_cons (pv 1) pa_nil)))
  (pss_cons (ps_if (PW.pt (pw_or (pt_not (pt_val (pe_fn h_do_divide (hr.mono (by decide)) (by rfl) (pa_cons (pv 0) (pa_cons (pv 1) pa_nil))))) (pw_or (pt_cmpR op_eq (pe_op op_mod (pe_fn h_power_sum (hr.mono (by decide)) (by rfl) (pa_cons (pv 0) pa_nil)) pe_int) pe_int (nomark _)) (pw_or1 (pt_cmpR op_ne (pe_op op_mod (pe_fn h_step_sum (hr.mono (by decide)) (by rfl) (pa_cons (pv 0) pa_nil)) pe_int) pe_int (nomark _))))))
    (pss_one (ps_ret pe_bl))
    pss_nil)
  (pss_one (ps_ret (pe_cmpR op_eq (pe_op op_mod (pe_callB (cr_sum rfl) (by rfl) T.sum (by decide +kernel) (pa_cons (pe_lc (own := [("d", 2), ("r", 3)]) (g := (gTup K 2 (gCons (gName 2) (gCons (gName 3) gNil)))) rfl sc_does_fit.nd (pi_tup (pv 0)) (blkOk_by (own := [("d", 2), ("r", 3)]) (N := N_does_fit) (sc := defScope s_does_fit) (by decide +kernel)) (fun _ _ _ _ _ => pg_tup rfl (pgs_cons (pg_name (i := 2) sc_does_fit.nd rfl (Or.inl rfl)) (pgs_cons (pg_name (i := 3) sc_does_fit.nd rfl (Or.inl rfl)) pgs_nil))) (fun _ _ _ _ _ => pts_nil) (fun _ _ _ _ _ => (pe_op op_mulW (pe_op op_fdivW (pv 1) (pv 2)) (pv 3)))) pa_nil)) pe_int) pe_int (nomark _))))))), ?_⟩
  obtain ⟨⟨a, ps⟩, N⟩ := x
  obtain ⟨hp, fit, n1, n2, q⟩ := q
  have fit : Fit N ps := fit
  have n1 : 1 ≤ N := n1
  have n2 : N ≤ 400 := n2
  have hi := fit.prod n1 n2
  refine ⟨_, rfl, (a, ps), rfl, hp, hi, _, rfl, N, rfl, n1, n2, ?_⟩
  refine ⟨_, rfl, _, rfl, ((a, ps), N), rfl, hp, hi, fun q hq => (fit.dv q hq).2, fun H1 s1 => ⟨_, rfl, iteF ?_⟩⟩
  refine ⟨_, rfl, (a, ps), rfl, hp.same s1, hi, fun H2 s2 => ⟨_, _, rfl, rfl, show (0 : Int) < 2 by decide, rfl, _, rfl, iF (vNe (by have : powS ps % 2 = 0 := fit.ev; show powS ps % 2 ≠ 1; omega)) ?_⟩⟩
  refine ⟨_, rfl, (a, ps), rfl, hp.same (s1.trans s2), hi, fun H3 s3 => ⟨_, _, rfl, rfl, show (0 : Int) < 24 by decide, rfl, _, rfl, iteNS (vEq fit.st) ?_⟩⟩
  have s03 : Same H H3 := (s1.trans s2).trans s3
  have hp3 := hp.same s03
  refine ⟨_, rfl, a, rfl, hp3.sqx, fun D hD => lc_pairs (K := K) hD (fun q => .int (N / q.1 * q.2)) hp3 (len1000 hi) (fun _ _ => rfl) (fun q hq H' R sm r => ?_) fun H' sm hd => ?_⟩
  · obtain ⟨d1, d2, d3, d4, d5⟩ := hi.2.2 q hq
    obtain ⟨e1, e2⟩ := div_small (n := N) (q := q.1) (B := 400) d1 (by decide) (by omega) (by omega)
    exact ⟨_, rfl, _, rfl, _, _, rfl, rfl, div_ok (by omega) (by omega), _, rfl, _, _, rfl, rfl, (show CMulW (N / q.1) q.2 from mul_ok (by omega) (by omega) (by omega) (by omega)), r⟩
  · rw [map_int (f := fun q => N / q.1 * q.2)] at hd
    refine ⟨D, _, rfl, SqL.of hd, ?_⟩
    have e : (ps.map fun q => N / q.1 * q.2).sum = S (fun d => N / d) ps := S_map_sum (fun d => N / d) ps
    rw [e]
    refine ⟨_, _, rfl, rfl, show (0 : Int) < 24 by decide, rfl, ?_⟩
    have e2 : decide (V.int (S (fun d => N / d) ps % 24) = V.int 0) = true := decide_eq_true (vEq fit.tu)
    show Q (.bl (decide (V.int (S (fun d => N / d) ps % 24) = V.int 0))) H'
    rw [e2]
    exact q H' (s03.trans sm)

abbrev s_product_level : Stmt := topS 50
abbrev N_product_level : List Str := ["product"]
theorem sc_product_level : FnScope N_product_level ["product"] (defScope s_product_level) := ⟨rfl, rfl, rfl, by decide +kernel, rfl, by decide +kernel, by decide +kernel⟩
/- [(0, 'product')] cells [] calls ['need_product', 'raw_level'] -/

theorem ok_product_level (F : Fun K "product_level" "product_level" s_product_level f fd) (T : Bl mg) (h_need_product : Has P w K mg base 4 "need_product" ["product"] sp_need_product) (h_raw_level : Has P w K mg base 3 "raw_level" ["product"] sp_raw_level) :
    FnOk P w K mg base CX0 5 f fd ["product"] sp_raw_level := by
  refine okF F sc_product_level (fun _ => rfl) fun cdv A outer s H x Q E hr q => ?_
  refine ⟨_, (pss_cons (ps_expr (pe_fn h_need_product (hr.mono (by decide)) (by rfl) (pa_cons (pv 0) pa_nil)))
  (pss_one (ps_ret (pe_fn h_raw_level (hr.mono (by decide)) (by rfl) (pa_cons (pv 0) pa_nil))))), ?_⟩
  obtain ⟨hp, ⟨M, fit, m1, m2⟩, q⟩ := q
  exact ⟨_, rfl, x, rfl, hp, fit.prod m1 m2, _, rfl, x, rfl, hp, ⟨M, fit, m1, m2⟩, q⟩

abbrev s_product_sign : Stmt := topS 51
abbrev N_product_sign : List Str := ["product"]
theorem sc_product_sign : FnScope N_product_sign ["product"] (defScope s_product_sign) := ⟨rfl, rfl, rfl, by decide +kernel, rfl, by decide +kernel, by decide +kernel⟩
/- [(0, 'product')] cells [] calls ['is_whole', 'need_product', 'raw_sign'] -/

abbrev sp_product_sign : Sp := SpF enP fun x H Q => PrT H x.1 x.2 ∧ IsProd x.2 ∧ Whole x.2 ∧ Sgn x.2 ∧ ∀ H', Same H H' → Q (.int (signM x.2)) H'
theorem ok_product_sign (F : Fun K "product_sign" "product_sign" s_product_sign f fd) (T : Bl mg) (h_need_product : Has P w K mg base 4 "need_product" ["product"] sp_need_product) (h_is_whole : Has P w K mg base 2 "is_whole" ["product"] sp_is_whole) (h_raw_sign : Has P w K mg base 2 "raw_sign" ["product"] sp_raw_sign) :
    FnOk P w K mg base CX0 5 f fd ["product"] sp_product_sign := by
  refine okF F sc_product_sign (fun _ => rfl) fun cdv A outer s H x Q E hr q => ?_
  refine ⟨_, (pss_cons (ps_expr (pe_fn h_need_product (hr.mono (by decide)) (by rfl) (pa_cons (pv 0) pa_nil)))
  (pss_cons (ps_if (pt_not (pt_val (pe_fn h_is_whole (hr.mono (by decide)) (by rfl) (pa_cons (pv 0) pa_nil))))
    (pss_one ps_never)
    pss_nil)
  (pss_one (ps_ret (pe_fn h_raw_sign (hr.mono (by decide)) (by rfl) (pa_cons (pv 0) pa_nil)))))), ?_⟩
  obtain ⟨hp, hi, hw, hs, q⟩ := q
  exact ⟨_, rfl, x, rfl, hp, hi, _, rfl, x, rfl, hp, hi, hw, fun H1 s1 => ⟨_, rfl, iteF ⟨_, rfl, x, rfl, hp.same s1, hi, hs, fun H2 s2 => q H2 (s1.trans s2)⟩⟩⟩

abbrev s_settled : Stmt := topS 52
abbrev N_settled : List Str := ["pairs", "d", "r"]
theorem sc_settled : FnScope N_settled ["pairs"] (defScope s_settled) := ⟨rfl, rfl, rfl, by decide +kernel, rfl, by decide +kernel, by decide +kernel⟩
/- [(0, 'pairs'), (1, 'd'), (2, 'r')] cells [] calls [] -/

def Sm (ps : Pairs) : Prop := ps.length ≤ 8 ∧ ∀ q ∈ ps, -400 ≤ q.1 ∧ q.1 ≤ 400 ∧ -48 ≤ q.2 ∧ q.2 ≤ 48
theorem IsProd.sm {ps : Pairs} (h : IsProd ps) : Sm ps := ⟨h.1, fun q hq => by have := h.2.2 q hq; omega⟩
abbrev sp_settledL : Sp := SpF enP fun x H Q => PrL H x.1 x.2 ∧ Sm x.2 ∧ ∀ H' p, Same H H' → PrT H' p x.2 → Q (.ref p) H'
abbrev sp_settledT : Sp := SpF enP fun x H Q => PrT H x.1 x.2 ∧ Sm x.2 ∧ ∀ H' p, Same H H' → PrT H' p x.2 → Q (.ref p) H'
theorem abs_le {r : Int} (h1 : -48 ≤ r) (h2 : r ≤ 48) : ¬ (48 : Int) < (if r < 0 then -r else r) := by split <;> omega
theorem ok_settledL (F : Fun K "settled" "settled" s_settled f fd) (T : Bl mg) : FnOk P w K mg base CX0 1 f fd ["pairs"] sp_settledL := by
  refine okF F sc_settled (fun _ => rfl) fun cdv A outer s H x Q E hr q => ?_
  refine ⟨_, (pss_cons (ps_if (pt_val (pe_callB (cr_any rfl) (by rfl) T.any (by decide +kernel) (pa_cons (pe_lc (own := [("d", 1), ("r", 2)]) (g := (gTup K 2 (gCons (gName 1) (gCons (gName 2) gNil)))) rfl sc_settled.nd (pi_list (pv 0)) (blkOk_by (own := [("d", 1), ("r", 2)]) (N := N_settled) (sc := defScope s_settled) (by decide +kernel)) (fun _ _ _ _ _ => pg_tup rfl (pgs_cons (pg_name (i := 1) sc_settled.nd rfl (Or.inl rfl)) (pgs_cons (pg_name (i := 2) sc_settled.nd rfl (Or.inl rfl)) pgs_nil))) (fun _ _ _ _ _ => pts_nil) (fun _ _ _ _ _ => (pe_cmpR op_gt (pv 1) (pe_globI (by rfl) T.MOST_STEP) (nomark _)))) pa_nil)))
    (pss_one ps_never)
    pss_nil)
  (pss_cons (ps_if (pt_val (pe_callB (cr_any rfl) (by rfl) T.any (by decide +kernel) (pa_cons (pe_lc (own := [("d", 1), ("r", 2)]) (g := (gTup K 2 (gCons (gName 1) (gCons (gName 2) gNil)))) rfl sc_settled.nd (pi_list (pv 0)) (blkOk_by (own := [("d", 1), ("r", 2)]) (N := N_settled) (sc := defScope s_settled) (by decide +kernel)) (fun _ _ _ _ _ => pg_tup rfl (pgs_cons (pg_name (i := 1) sc_settled.nd rfl (Or.inl rfl)) (pgs_cons (pg_name (i := 2) sc_settled.nd rfl (Or.inl rfl)) pgs_nil))) (fun _ _ _ _ _ => pts_nil) (fun _ _ _ _ _ => (pe_cmpR op_gt (pe_callB call_abs (by rfl) T.abs (by decide +kernel) (pa_cons (pv 2) pa_nil)) (pe_globI (by rfl) T.MOST_POWER) (nomark _)))) pa_nil)))
    (pss_one ps_never)
    pss_nil)
  (pss_cons (ps_if (pt_cmpR op_gt (pe_callB call_len_seq (by rfl) T.len (by decide +kernel) (pa_cons (pv 0) pa_nil)) (pe_globI (by rfl) T.MOST_PAIRS) (nomark _))
    (pss_one ps_never)
    pss_nil)
  (pss_one (ps_ret (pe_callTy call_tuple_of (by rfl) T.tuple (by decide +kernel) (pa_cons (pv 0) pa_nil))))))), ?_⟩
  obtain ⟨a, ps⟩ := x
  obtain ⟨hp, ⟨hl, hb⟩, q⟩ := q
  have hl : ps.length ≤ 8 := hl
  have l1000 : ps.length ≤ 1000 := by omega
  have sq : ∀ {H : Hp}, PrL H a ps → ∃ xs, SqL K H a xs := fun ⟨as, h, _⟩ => ⟨_, SqL.of h⟩
  refine ⟨_, rfl, a, rfl, sq hp, fun D hD => lc_pairsL (K := K) hD (fun q => .bl (decide ((400 : Int) < q.1))) hp l1000 (fun _ _ => rfl) (fun q hq H' R sm r => ⟨_, rfl, _, _, rfl, rfl, r⟩) fun H1 s1 hd => ?_⟩
  rw [map_bl (f := fun q => decide ((400 : Int) < q.1))] at hd
  refine ⟨D, _, rfl, SqL.of hd, _, rfl, ?_⟩
  rw [any_id fun q hq => decide_eq_false (by have := hb q hq; omega)]
  refine iteF ?_
  have hp1 := hp.same s1
  refine ⟨_, rfl, a, rfl, sq hp1, fun D2 hD2 => lc_pairsL (K := K) hD2 (fun q => .bl (decide ((48 : Int) < (if q.2 < 0 then -q.2 else q.2)))) hp1 l1000 (fun _ _ => rfl) (fun q hq H' R sm r => ⟨_, rfl, _, rfl, _, _, rfl, rfl, r⟩) fun H2 s2 hd2 => ?_⟩
  rw [map_bl (f := fun q => decide ((48 : Int) < (if q.2 < 0 then -q.2 else q.2)))] at hd2
  refine ⟨D2, _, rfl, SqL.of hd2, _, rfl, ?_⟩
  rw [any_id fun q hq => decide_eq_false (abs_le (hb q hq).2.2.1 (hb q hq).2.2.2)]
  refine iteF ?_
  obtain ⟨as, ha, hps⟩ := hp1.same s2
  have hlen := Paired.len hps
  refine ⟨_, rfl, a, _, rfl, .inl (SqL.of ha), _, _, rfl, rfl, _, rfl, iF (by rw [List.length_map]; omega) ?_⟩
  exact ⟨_, rfl, a, _, rfl, .inl ⟨SqL.of ha, fun l nl => q _ l ((s1.trans s2).trans (same_upd nl)) ⟨as, .inl upd_same, Prs.same (same_upd nl) hps⟩⟩⟩
theorem ok_settledT (F : Fun K "settled" "settled" s_settled f fd) (T : Bl mg) : FnOk P w K mg base CX0 1 f fd ["pairs"] sp_settledT := by
  refine okF F sc_settled (fun _ => rfl) fun cdv A outer s H x Q E hr q => ?_
  refine ⟨_, (pss_cons (ps_if (pt_val (pe_callB (cr_any rfl) (by rfl) T.any (by decide +kernel) (pa_cons (pe_lc (own := [("d", 1), ("r", 2)]) (g := (gTup K 2 (gCons (gName 1) (gCons (gName 2) gNil)))) rfl sc_settled.nd (pi_tup (pv 0)) (blkOk_by (own := [("d", 1), ("r", 2)]) (N := N_settled) (sc := defScope s_settled) (by decide +kernel)) (fun _ _ _ _ _ => pg_tup rfl (pgs_cons (pg_name (i := 1) sc_settled.nd rfl (Or.inl rfl)) (pgs_cons (pg_name (i := 2) sc_settled.nd rfl (Or.inl rfl)) pgs_nil))) (fun _ _ _ _ _ => pts_nil) (fun _ _ _ _ _ => (pe_cmpR op_gt (pv 1) (pe_globI (by rfl) T.MOST_STEP) (nomark _)))) pa_nil)))
    (pss_one ps_never)
    pss_nil)
  (pss_cons (ps_if (pt_val (pe_callB (cr_any rfl) (by rfl) T.any (by decide +kernel) (pa_cons (pe_lc (own := [("d", 1), ("r", 2)]) (g := (gTup K 2 (gCons (gName 1) (gCons (gName 2) gNil)))) rfl sc_settled.nd (pi_tup (pv 0)) (blkOk_by (own := [("d", 1), ("r", 2)]) (N := N_settled) (sc := defScope s_settled) (by decide +kernel)) (fun _ _ _ _ _ => pg_tup rfl (pgs_cons (pg_name (i := 1) sc_settled.nd rfl (Or.inl rfl)) (pgs_cons (pg_name (i := 2) sc_settled.nd rfl (Or.inl rfl)) pgs_nil))) (fun _ _ _ _ _ => pts_nil) (fun _ _ _ _ _ => (pe_cmpR op_gt (pe_callB call_abs (by rfl) T.abs (by decide +kernel) (pa_cons (pv 2) pa_nil)) (pe_globI (by rfl) T.MOST_POWER) (nomark _)))) pa_nil)))
    (pss_one ps_never)
    pss_nil)
  (pss_cons (ps_if (pt_cmpR op_gt (pe_callB call_len_seq (by rfl) T.len (by decide +kernel) (pa_cons (pv 0) pa_nil)) (pe_globI (by rfl) T.MOST_PAIRS) (nomark _))
    (pss_one ps_never)
    pss_nil)
  (pss_one (ps_ret (pe_callTy call_tuple_of (by rfl) T.tuple (by decide +kernel) (pa_cons (pv 0) pa_nil))))))), ?_⟩
  obtain ⟨a, ps⟩ := x
  obtain ⟨hp, ⟨hl, hb⟩, q⟩ := q
  have hl : ps.length ≤ 8 := hl
  have l1000 : ps.length ≤ 1000 := by omega
  refine ⟨_, rfl, a, rfl, hp.sqx, fun D hD => lc_pairs (K := K) hD (fun q => .bl (decide ((400 : Int) < q.1))) hp l1000 (fun _ _ => rfl) (fun q hq H' R sm r => ⟨_, rfl, _, _, rfl, rfl, r⟩) fun H1 s1 hd => ?_⟩
  rw [map_bl (f := fun q => decide ((400 : Int) < q.1))] at hd
  refine ⟨D, _, rfl, SqL.of hd, _, rfl, ?_⟩
  rw [any_id fun q hq => decide_eq_false (by have := hb q hq; omega)]
  refine iteF ?_
  have hp1 := hp.same s1
  refine ⟨_, rfl, a, rfl, hp1.sqx, fun D2 hD2 => lc_pairs (K := K) hD2 (fun q => .bl (decide ((48 : Int) < (if q.2 < 0 then -q.2 else q.2)))) hp1 l1000 (fun _ _ => rfl) (fun q hq H' R sm r => ⟨_, rfl, _, rfl, _, _, rfl, rfl, r⟩) fun H2 s2 hd2 => ?_⟩
  rw [map_bl (f := fun q => decide ((48 : Int) < (if q.2 < 0 then -q.2 else q.2)))] at hd2
  refine ⟨D2, _, rfl, SqL.of hd2, _, rfl, ?_⟩
  rw [any_id fun q hq => decide_eq_false (abs_le (hb q hq).2.2.1 (hb q hq).2.2.2)]
  refine iteF ?_
  have hp2 := hp1.same s2
  obtain ⟨as, ha, hps⟩ := id hp2
  have hlen := Paired.len hps
  refine ⟨_, rfl, a, _, rfl, .inr (.inl ha), _, _, rfl, rfl, _, rfl, iF (by rw [List.length_map]; omega) ?_⟩
  exact ⟨_, rfl, a, _, rfl, .inr ⟨.inl ha, q _ a (s1.trans s2) hp2⟩⟩

abbrev s_undone_product : Stmt := topS 54
abbrev N_undone_product : List Str := ["product", "d", "r"]
theorem sc_undone_product : FnScope N_undone_product ["product"] (defScope s_undone_product) := ⟨rfl, rfl, rfl, by decide +kernel, rfl, by decide +kernel, by decide +kernel⟩
/- [(0, 'product'), (1, 'd'), (2, 'r')] cells [] calls ['need_product'] -/

abbrev undoneM (ps : Pairs) : Pairs := ps.map fun q => (q.1, -q.2)
abbrev sp_undone_product : Sp := SpF enP fun x H Q => PrT H x.1 x.2 ∧ IsProd x.2 ∧ ∀ H' p, Same H H' → PrT H' p (undoneM x.2) → Q (.ref p) H'
theorem ok_undone_product (F : Fun K "undone_product" "undone_product" s_undone_product f fd) (T : Bl mg) (h_need_product : Has P w K mg base 4 "need_product" ["product"] sp_need_product) : FnOk P w K mg base CX0 5 f fd ["product"] sp_undone_product := by
  refine okF F sc_undone_product (fun _ => rfl) fun cdv A outer s H x Q E hr q => ?_
  refine ⟨_, (pss_cons (ps_expr (pe_fn h_need_product (hr.mono (by decide)) (by rfl) (pa_cons (pv 0) pa_nil)))
  (pss_one (ps_ret (pe_callTy call_tuple_of (by rfl) T.tuple (by decide +kernel) (pa_cons (pe_lc (own := [("d", 1), ("r", 2)]) (g := (gTup K 2 (gCons (gName 1) (gCons (gName 2) gNil)))) rfl sc_undone_product.nd (pi_tup (pv 0)) (blkOk_by (own := [("d", 1), ("r", 2)]) (N := N_undone_product) (sc := defScope s_undone_product) (by decide +kernel)) (fun _ _ _ _ _ => pg_tup rfl (pgs_cons (pg_name (i := 1) sc_undone_product.nd rfl (Or.inl rfl)) (pgs_cons (pg_name (i := 2) sc_undone_product.nd rfl (Or.inl rfl)) pgs_nil))) (fun _ _ _ _ _ => pts_nil) (fun _ _ _ _ _ => (pe_tup (pa_cons (pv 1) (pa_cons (pe_un un_neg (pv 2)) pa_nil))))) pa_nil))))), ?_⟩
  obtain ⟨a, ps⟩ := x
  obtain ⟨hp, hi, q⟩ := q
  refine ⟨_, rfl, (a, ps), rfl, hp, hi, ?_⟩
  refine ⟨_, rfl, a, rfl, hp.sqx, fun D hD => lc_mk (K := K) hD (fun q => (q.1, -q.2)) hp (len1000 hi) (fun _ _ => rfl) (fun q hq H' R sm r => ⟨_, rfl, _, rfl, _, rfl, r⟩) fun H' sm hd => ?_⟩
  obtain ⟨bs, hb, hbs⟩ := hd
  exact ⟨D, _, rfl, .inl ⟨SqL.of hb, fun l nl => q _ l (sm.trans (same_upd nl)) ⟨bs, .inl upd_same, Prs.same (same_upd nl) hbs⟩⟩⟩

abbrev s_turned_product : Stmt := topS 55
abbrev N_turned_product : List Str := ["product", "level", "d", "r"]
theorem sc_turned_product : FnScope N_turned_product ["product", "level"] (defScope s_turned_product) := ⟨rfl, rfl, rfl, by decide +kernel, rfl, by decide +kernel, by decide +kernel⟩
/- [(0, 'product'), (1, 'level'), (2, 'd'), (3, 'r')] cells ['level'] calls ['do_divide', 'need_level', 'need_product'] -/

abbrev sp_turned_product : Sp := SpF enPN fun x H Q => PrT H x.1.1 x.1.2 ∧ Fit x.2 x.1.2 ∧ 1 ≤ x.2 ∧ x.2 ≤ 400 ∧ ∀ H' p, Same H H' → PrT H' p (turn x.2 x.1.2) → Q (.ref p) H'
theorem Paired.append' {α β : Type} {R : α → β → Prop} : ∀ {l l2 : List α} {m m2 : List β}, Paired R l m → Paired R l2 m2 → Paired R (l ++ l2) (m ++ m2)
  | _, _, _, _, .nil, h => h
  | _, _, _, _, .cons r t, h => .cons r (Paired.append' t h)
theorem Paired.rev {α β : Type} {R : α → β → Prop} : ∀ {l : List α} {m : List β}, Paired R l m → Paired R l.reverse m.reverse
  | _, _, .nil => .nil
  | _, _, .cons r t => by
    rw [List.reverse_cons, List.reverse_cons]
    exact Paired.snoc r (Paired.rev t)
theorem ok_turned_product (F : Fun K "turned_product" "turned_product" s_turned_product f fd) (T : Bl mg) (h_need_product : Has P w K mg base 4 "need_product" ["product"] sp_need_product) (h_need_level : Has P w K mg base 4 "need_level" ["level"] sp_need_level)
    (h_do_divide : Has P w K mg base 1 "do_divide" ["product", "level"] sp_do_divide) : FnOk P w K mg base CX0 5 f fd ["product", "level"] sp_turned_product := by
  refine okF F sc_turned_product (fun _ => rfl) fun cdv A outer s H x Q E hr q => ?_
  refine ⟨_, (pss_cons (ps_expr (pe_fn h_need_product (hr.mono (by decide)) (by rfl) (pa_cons (pv 0) pa_nil)))
  (pss_cons (ps_expr (pe_fn h_need_level (hr.mono (by decide)) (by rfl) (pa_cons (pv 1) pa_nil)))
  (pss_cons (ps_if (pt_not (pt_val (pe_fn h_do_divide (hr.mono (by decide)) (by rfl) (pa_cons (pv 0) (pa_cons (pv 1) pa_nil)))))
    (pss_one ps_never)
    pss_nil)
  (pss_one (ps_ret (pe_callTy call_tuple_of (by rfl) T.tuple (by decide +kernel) (pa_cons (pe_revL (pe_lc (own := [("d", 2), ("r", 3)]) (g := (gTup K 2 (gCons (gName 2) (gCons (gName 3) gNil)))) rfl sc_turned_product.nd (pi_tup (pv 0)) (blkOk_by (own := [("d", 2), ("r", 3)]) (N := N_turned_product) (sc := defScope s_turned_product) (by decide +kernel)) (fun _ _ _ _ _ => pg_tup rfl (pgs_cons (pg_name (i := 2) sc_turned_product.nd rfl (Or.inl rfl)) (pgs_cons (pg_name (i := 3) sc_turned_product.nd rfl (Or.inl rfl)) pgs_nil))) (fun _ _ _ _ _ => pts_nil) (fun _ _ _ _ _ => (pe_tup (pa_cons (pe_op op_fdivW (pv 1) (pv 2)) (pa_cons (pv 3) pa_nil)))))) pa_nil))))))), ?_⟩
  obtain ⟨⟨a, ps⟩, N⟩ := x
  obtain ⟨hp, fit, n1, n2, q⟩ := q
  have fit : Fit N ps := fit
  have n1 : 1 ≤ N := n1
  have n2 : N ≤ 400 := n2
  have hi := fit.prod n1 n2
  refine ⟨_, rfl, (a, ps), rfl, hp, hi, _, rfl, N, rfl, n1, n2, ?_⟩
  refine ⟨_, rfl, _, rfl, ((a, ps), N), rfl, hp, hi, fun q hq => (fit.dv q hq).2, fun H1 s1 => ⟨_, rfl, iteF ?_⟩⟩
  have hp1 := hp.same s1
  refine ⟨_, rfl, a, rfl, hp1.sqx, fun D hD => lc_mk (K := K) hD (fun q => (N / q.1, q.2)) hp1 (len1000 hi) (fun _ _ => rfl) (fun q hq H' R sm r => ?_) fun H2 s2 hd => ?_⟩
  · obtain ⟨d1, d2, d3, d4, d5⟩ := hi.2.2 q hq
    exact ⟨_, rfl, _, rfl, _, _, rfl, rfl, div_ok (by omega) (by omega), _, rfl, r⟩
  · obtain ⟨bs, hb, hbs⟩ := hd
    refine ⟨D, _, rfl, SqL.of hb, fun p np => ⟨p, _, rfl, .inl ⟨SqL.of upd_same, fun l nl => q _ l (((s1.trans s2).trans (same_upd np)).trans (same_upd nl)) ⟨bs.reverse, .inl ?_, ?_⟩⟩⟩⟩
    · rw [upd_same, List.map_reverse]
    · exact Paired.rev (Prs.same ((same_upd np).trans (same_upd nl)) hbs)

abbrev s_spread_product : Stmt := topS 56
abbrev N_spread_product : List Str := ["product", "t"]
theorem sc_spread_product : FnScope N_spread_product ["product", "t"] (defScope s_spread_product) := ⟨rfl, rfl, rfl, by decide +kernel, rfl, by decide +kernel, by decide +kernel⟩
/- [(0, 'product'), (1, 't')] cells [] calls ['need_from', 'need_product', 'settled', 'spread_pairs'] -/

abbrev sp_spread_product : Sp := SpF enPN fun x H Q => PrT H x.1.1 x.1.2 ∧ IsProd x.1.2 ∧ 1 ≤ x.2 ∧ x.2 ≤ 1000 ∧ Sm (spreadM x.2 x.1.2) ∧ ∀ H' p, Same H H' → PrT H' p (spreadM x.2 x.1.2) → Q (.ref p) H'
theorem ok_spread_product (F : Fun K "spread_product" "spread_product" s_spread_product f fd) (T : Bl mg) (h_need_product : Has P w K mg base 4 "need_product" ["product"] sp_need_product) (h_need_from : Has P w K mg base 2 "need_from" ["thing", "low"] sp_need_from)
    (h_spread_pairs : Has P w K mg base 1 "spread_pairs" ["product", "t"] sp_spread_pairs) (h_settled : Has P w K mg base 1 "settled" ["pairs"] sp_settledT) : FnOk P w K mg base CX0 5 f fd ["product", "t"] sp_spread_product := by
  refine okF F sc_spread_product (fun _ => rfl) fun cdv A outer s H x Q E hr q => ?_
  refine ⟨_, (pss_cons (ps_expr (pe_fn h_need_product (hr.mono (by decide)) (by rfl) (pa_cons (pv 0) pa_nil)))
  (pss_cons (ps_expr (pe_fn h_need_from (hr.mono (by decide)) (by rfl) (pa_cons (pv 1) (pa_cons pe_int pa_nil))))
  (pss_one (ps_ret (pe_fn h_settled (hr.mono (by decide)) (by rfl) (pa_cons (pe_fn h_spread_pairs (hr.mono (by decide)) (by rfl) (pa_cons (pv 0) (pa_cons (pv 1) pa_nil))) pa_nil)))))), ?_⟩
  obtain ⟨⟨a, ps⟩, t⟩ := x
  obtain ⟨hp, hi, t1, t2, hs, q⟩ := q
  exact ⟨_, rfl, (a, ps), rfl, hp, hi, _, rfl, (t, 1), rfl, t1, _, rfl, _, rfl, ((a, ps), t), rfl, hp, hi, t1, t2, fun H1 p s1 hp1 => ⟨(p, spreadM t ps), rfl, hp1, hs, fun H2 p2 s2 hp2 => q H2 p2 (s1.trans s2) hp2⟩⟩
end
end K24
/-! K24, D7: joined products, orders. -/
namespace K24
open PySem PySem.Spec PyProof.Rows L2
/-! ### sorted keys -/
/-- the pairs of a dict by its keys -/
theorem kvs_by : ∀ {l : Pairs}, (l.map (·.1)).Nodup → (l.map (·.1)).map (fun d => (d, (getI l d).getD 0)) = l := by
  intro l nd
  rw [List.map_map]
  have : ∀ q ∈ l, ((fun d => (d, (getI l d).getD 0)) ∘ (·.1)) q = q := fun q hq => by
    show (q.1, (getI l q.1).getD 0) = q
    rw [getI_of_mem nd (show (q.1, q.2) ∈ l from hq)]
    rfl
  rw [List.map_congr_left this]
  simp
/-- the list that joined_product makes, from the sorted keys -/
def jlist (l : Pairs) (ys : List Int) : Pairs := (ys.map fun d => (d, (getI l d).getD 0)).filter fun q => decide (q.2 ≠ 0)
theorem jlist_joined {ps qs l : Pairs} {ys : List Int} (nd : (l.map (·.1)).Nodup) (hs : ∀ f, S f l = S f ps + S f qs) (hk : ∀ q ∈ l, q.1 ∈ ps.map (·.1) ∨ q.1 ∈ qs.map (·.1)) (hp : ys.Perm (l.map (·.1))) (ho : ys.Pairwise (· ≤ ·)) :
    Joined ps qs (jlist l ys) := by
  have nys : ys.Nodup := hp.nodup_iff.mpr nd
  have str : ys.Pairwise (· < ·) := by
    have both := ho.and nys
    exact both.imp fun {a b} h => by
      have := h.1
      have h2 : a ≠ b := h.2
      omega
  refine ⟨?_, fun q hq => ?_, fun q hq => ?_, fun f => ?_⟩
  · show List.Pairwise _ _
    unfold jlist
    refine List.Pairwise.filter _ ?_
    rw [List.pairwise_map]
    exact str
  · have := (List.mem_filter.mp hq).2
    simpa using this
  · obtain ⟨d, hd, rfl⟩ := List.mem_map.mp (List.mem_filter.mp hq).1
    obtain ⟨x, hx, e⟩ := List.mem_map.mp (hp.mem_iff.mp hd)
    have := hk x hx
    rw [e] at this
    exact this
  · unfold jlist
    rw [S_drop_zero, S_perm f (hp.map fun d => (d, (getI l d).getD 0)), kvs_by nd, hs]
section
variable {P : Program} {w : World} {K : PySem.W.Frag} {mg : Str → Option Value} {base : Heap} {f : Addr} {fd : FuncData}

abbrev s_joined_product : Stmt := topS 53
abbrev N_joined_product : List Str := ["one", "other", "sums", "d", "r"]
theorem sc_joined_product : FnScope N_joined_product ["one", "other"] (defScope s_joined_product) := ⟨rfl, rfl, rfl, by decide +kernel, rfl, by decide +kernel, by decide +kernel⟩
/- [(0, 'one'), (1, 'other'), (2, 'sums'), (3, 'd'), (4, 'r')] cells ['sums'] calls ['need_product', 'settled'] -/

abbrev enPP (x : (Addr × Pairs) × (Addr × Pairs)) : List V := [.ref x.1.1, .ref x.2.1]
abbrev sp_joined_product : Sp := SpF enPP fun x H Q => PrT H x.1.1 x.1.2 ∧ IsProd x.1.2 ∧ PrT H x.2.1 x.2.2 ∧ IsProd x.2.2 ∧ (∀ js, Joined x.1.2 x.2.2 js → IsProd js) ∧ ∀ H' p js, Same H H' → Joined x.1.2 x.2.2 js → PrT H' p js → Q (.ref p) H'
theorem toK_keys (l : Pairs) : (toK l).map (·.1) = (l.map (·.1)).map Sum.inl := by unfold toK; rw [List.map_map, List.map_map]; rfl
/-- t + u, whichever tuple the answer is -/
theorem op_catP {X : Cx} : OpR X (binaryOp .Add) (fun x y H Q => ∃ a b xs ys, x = .ref a ∧ y = .ref b ∧ Rd H a (.tup xs) ∧ Rd H b (.tup ys) ∧ xs.length + ys.length ≤ sizeLine ∧ ∀ c H', Same H H' → Rd H' c (.tup (xs ++ ys)) → Q (.ref c) H') := by
  intro pins s σ H x y v u Q I rx ry h
  obtain ⟨a, b, xs, ys, ex, ey, ha, hb, hz, q⟩ := h
  refine op_catA pins s σ H x y v u Q I rx ry ⟨a, b, xs, ys, ex, ey, .inl ha, .inl hb, hz, fun e => q b H (Same.refl _) ?_, fun _ e => q a H (Same.refl _) ?_, fun _ _ p np => q p _ (same_upd np) (.inl upd_same)⟩
  · rw [e]
    exact hb
  · rw [e, List.append_nil]
    exact ha
/-- [(d, sums[d]) for d in sorted(sums) if sums[d] != 0] -/
theorem lc_joined {K : PySem.W.Frag} {x : Nat} {m p : Addr} {kvs : Pairs} {ys : List Int} {tt : TT} {te : TA} {vs : List Nat} {σ : L2.St} {H : Hp} {Qd : Hp → Prop} {D : Addr} (hD : H D = none) (hp : H p = some (.lst (ys.map V.int))) (hm : DiI H m kvs) (hys : ∀ y ∈ ys, ∃ v, getI kvs y = some v) (hl : ys.length ≤ 1000)
    (hw : ∀ d, wipe ((wipe σ vs).set x (some d)) vs = wipe σ vs)
    (ht : ∀ y v H' R, DiI H' m kvs → getI kvs y = some v → R (!decide (V.int v = V.int 0)) H' → tt ((wipe σ vs).set x (some (.int y))) H' R)
    (he : ∀ y v H' R, DiI H' m kvs → getI kvs y = some v → R [.int y, .int v] H' → te ((wipe σ vs).set x (some (.int y))) H' R) (hq : ∀ H', Same H H' → PrL H' D (jlist kvs ys) → Qd H') :
    ∃ W : Nat → Nat → Hp → Prop, (∃ m, W 0 m (upd H D (.lst []))) ∧ ∀ i m H, W i m H →
      ((Itl K p).stop i H ∧ Qd H) ∨ ((Itl K p).go i H ∧ ∃ Nx : Hp → Prop, (∀ H', Nx H' → ∃ m', m' < m ∧ W (i + 1) m' H') ∧ ∀ v H', (Itl K p).yld i H v H' → gName x v (wipe σ vs) H' fun σ2 H2 => wipe σ2 vs = wipe σ vs ∧ tt σ2 H2 fun b H3 =>
        if b = true then tTup te σ2 H3 fun y H4 => ∃ acc, H4 D = some (.lst acc) ∧ acc.length < sizeLine ∧ Nx (upd H4 D (.lst (acc ++ [y]))) else Nx H3) := by
  refine lc_list (xs := ys.map V.int) (fun i H' => Same H H' ∧ PrL H' D (jlist kvs (ys.take i))) ⟨same_upd hD, [], upd_same, .nil⟩ (fun i H' _ h => SqL.of (h.1 _ _ hp)) ?_ ?_
  · rintro i v H' hv ⟨sm, as, ha, hps⟩
    rw [List.getElem?_map] at hv
    obtain ⟨y, hy, rfl⟩ := Option.map_eq_some_iff.mp hv
    obtain ⟨v, ev⟩ := hys y (mem_at hy)
    have snoc : jlist kvs (ys.take (i + 1)) = jlist kvs (ys.take i) ++ (if v ≠ 0 then [(y, v)] else []) := by
      unfold jlist
      rw [List.take_add_one, hy, List.map_append, List.filter_append]
      congr 1
      show List.filter _ [(y, (getI kvs y).getD 0)] = _
      rw [ev]
      by_cases z : v = 0
      · simp [z]
      · simp [z]
    refine ⟨hw _, ht y v H' _ (sm _ _ hm) ev ?_⟩
    by_cases z : v = 0
    · rw [if_neg (fun k => k z), List.append_nil] at snoc
      rw [snoc, decide_eq_true (vEq z)]
      exact iteF ⟨sm, as, ha, hps⟩
    · rw [if_pos z] at snoc
      rw [snoc, decide_eq_false (vNe z)]
      refine iteT (he y v H' _ (sm _ _ hm) ev ⟨by show 2 ≤ sizeLine; decide, fun q nq => ?_⟩)
      have nqD : D ≠ q := ne_of_none ha nq
      refine ⟨as.map V.ref, by rw [upd_ne nqD]; exact ha, ?_, fun b o e => ?_, as ++ [q], ?_, ?_⟩
      · have e1 := Paired.len hps
        have e2 : (jlist kvs (ys.take i)).length ≤ (ys.take i).length := by
          unfold jlist
          refine Nat.le_trans (List.length_filter_le _ _) ?_
          rw [List.length_map]
          exact Nat.le_refl _
        rw [List.length_take] at e2
        rw [List.length_map]
        exact small1000 (by omega)
      · rw [upd_ne (ne_of_none e hD), upd_ne (ne_of_none (sm _ _ e) nq)]
        exact sm _ _ e
      · rw [upd_same, List.map_append]
        rfl
      · refine Paired.snoc ?_ (Paired.mapP hps fun c r e => ?_)
        · rw [upd_ne nqD.symm, upd_same]
          rfl
        · have e' : H' c = some (tp r) := e
          have nc : c ≠ D := ne_of e' ha (by intro z; cases z)
          rw [upd_ne nc, upd_ne (ne_of_none e' nq)]
          exact e'
  · rintro H' ⟨sm, h⟩
    rw [List.length_map, List.take_length] at h
    exact hq H' sm h
theorem ok_joined_product (F : Fun K "joined_product" "joined_product" s_joined_product f fd) (T : Bl mg) (h_need_product : Has P w K mg base 4 "need_product" ["product"] sp_need_product) (h_settled : Has P w K mg base 1 "settled" ["pairs"] sp_settledL) :
    FnOk P w K mg base CX0 5 f fd ["one", "other"] sp_joined_product := by
  refine okF F sc_joined_product (fun _ => rfl) fun cdv A outer s H x Q E hr q => ?_
  refine ⟨_, (pss_cons (ps_expr (pe_fn h_need_product (hr.mono (by decide)) (by rfl) (pa_cons (pv 0) pa_nil)))
  (pss_cons (ps_expr (pe_fn h_need_product (hr.mono (by decide)) (by rfl) (pa_cons (pv 1) pa_nil)))
  (pss_cons (ps_set (i := 2) sc_joined_product.nd rfl (.inr rfl) pe_dnewK)
  (pss_cons (ps_for PassesOwn.never rfl (pi_tup (pe_op op_catP (pv 0) (pv 1))) (pg_tup rfl (pgs_cons (pg_name (i := 3) sc_joined_product.nd rfl (.inl rfl)) (pgs_cons (pg_name (i := 4) sc_joined_product.nd rfl (.inl rfl)) pgs_nil)))
    (pss_one (ps_dput (hu_of hr) (pv 2) (pv 3) (pe_op op_add (pe_dget2 (hu_of hr) (pv 2) (pv 3) pe_int ⟨rfl, rfl, rfl, rfl⟩) (pv 4)) rfl)))
  (pss_one (ps_ret (pe_fn h_settled (hr.mono (by decide)) (by rfl) (pa_cons (pe_lc (own := [("d", 3)]) (g := (gName 3)) rfl sc_joined_product.nd (pi_list (pe_callB (call_sortedDI rfl) (by rfl) T.sorted (by decide +kernel) (pa_cons (pv 2) pa_nil))) (blkOk_by (own := [("d", 3)]) (N := N_joined_product) (sc := defScope s_joined_product) (by decide +kernel)) (fun _ _ _ _ _ => pg_name (i := 3) sc_joined_product.nd rfl (Or.inl rfl)) (fun _ _ _ _ _ => pts_one (pt_cmpR op_ne (pe_dget (hu_of hr) (pv 2) (pv 3) (fun _ _ => rfl)) pe_int (nomark _))) (fun _ _ _ _ _ => (pe_tup (pa_cons (pv 3) (pa_cons (pe_dget (hu_of hr) (pv 2) (pv 3) (fun _ _ => rfl)) pa_nil))))) pa_nil)))))))), ?_⟩
  obtain ⟨⟨a, ps⟩, ⟨b, qs⟩⟩ := x
  obtain ⟨hp, ip, hq, iq, jp, qQ⟩ := q
  have ip : IsProd ps := ip
  have iq : IsProd qs := iq
  have hp : PrT H a ps := hp
  have hq : PrT H b qs := hq
  refine ⟨_, rfl, (a, ps), rfl, hp, ip, _, rfl, (b, qs), rfl, hq, iq, fun m nm => ?_⟩
  have s1 : Same H (upd H m (.dK [])) := same_upd nm
  generalize hH1 : upd H m (.dK []) = H1 at s1
  have hm1 : DiI H1 m [] := by rw [← hH1]; exact upd_same
  obtain ⟨as, ha, hps⟩ := hp.same s1
  obtain ⟨bs, hb, hqs⟩ := hq.same s1
  have la := Paired.len hps
  have lb := Paired.len hqs
  have l8 := ip.1
  have r8 := iq.1
  refine ⟨_, rfl, _, rfl, a, b, _, _, rfl, rfl, ha, hb, by rw [List.length_map, List.length_map]; exact Nat.le_of_lt (small1000 (by omega)), fun c H2 s2 hc0 => ?_⟩
  have hc : PrT H2 c (ps ++ qs) := ⟨as ++ bs, by rw [List.map_append]; exact hc0, Paired.append' (Prs.same s2 hps) (Prs.same s2 hqs)⟩
  refine ⟨c, rfl, hc.sqx, for_pairs (ps := ps ++ qs) (fun i σ H' => ∃ (o3 o4 : Option V) (kvs : Pairs), σ = [some (.ref a), some (.ref b), some (.ref m), o3, o4] ∧ Same H H' ∧ PrT H' c (ps ++ qs) ∧ DiI H' m kvs ∧ (kvs.map (·.1)).Nodup ∧ (∀ f, S f kvs = S f ((ps ++ qs).take i)) ∧
      (∀ q ∈ kvs, q.1 ∈ ps.map (·.1) ∨ q.1 ∈ qs.map (·.1)) ∧ kvs.length ≤ i) ⟨_, _, [], rfl, s1.trans s2, hc, s2 _ _ hm1, List.nodup_nil, fun _ => rfl, (fun _ h => nomatch h), Nat.zero_le _⟩ ?_ ?_ ?_⟩
  · rintro i σ H' ⟨_, _, _, _, _, h, _⟩
    exact h
  · rintro i q σ H' hq' ⟨o3, o4, kvs, rfl, sm, hc', hd, nd, hS, hk, hl⟩
    have lt : i < 16 := by
      have := (List.getElem?_eq_some_iff.mp hq').1
      rw [List.length_append] at this
      omega
    refine ⟨_, rfl, m, rfl, .inl ⟨_, .inl hd⟩, _, rfl, _, DiI.get hd q.1, _, rfl, (getI kvs q.1).getD 0, q.2, getD_int _, rfl, _, rfl, _, rfl, m, _, rfl, DiI.put hd q.1 _ (by omega), ?_⟩
    refine ⟨some (.int q.1), some (.int q.2), putI kvs q.1 ((getI kvs q.1).getD 0 + q.2), rfl, fun b o z => ?_, ?_, upd_same, nodup_putI nd, fun f => ?_, fun y hy => ?_, ?_⟩
    · rw [upd_ne (ne_of_none z nm)]
      exact sm b o z
    · obtain ⟨cs, hcs, hrs⟩ := hc'
      refine ⟨cs, ?_, Paired.mapP hrs fun u v z => ?_⟩
      · rcases hcs with z | ⟨o, z⟩
        · exact .inl (by rw [upd_ne (ne_of z hd (by intro z; cases z))]; exact z)
        · exact .inr ⟨o, by rw [upd_ne (ne_of z hd (by intro z; cases z))]; exact z⟩
      · have z' : H' u = some (tp v) := z
        rw [upd_ne (ne_of z' hd (by intro z; cases z))]
        exact z'
    · rw [S_putI f nd, hS, take_S hq']
    · rcases mem_putI hy with e | e
      · have hm := mem_at hq'
        rw [e]
        rcases List.mem_append.mp hm with z | z
        · exact .inl (List.mem_map.mpr ⟨q, z, rfl⟩)
        · exact .inr (List.mem_map.mpr ⟨q, z, rfl⟩)
      · exact hk y e
    · have := length_putI kvs q.1 ((getI kvs q.1).getD 0 + q.2)
      omega
  · rintro σ H' ⟨o3, o4, kvs, rfl, sm, hc', hd, nd, hS, hk, hl⟩
    rw [List.take_length] at hS
    have l16 : kvs.length ≤ 16 := by rw [List.length_append] at hl; omega
    refine ⟨_, rfl, m, toK kvs, kvs.map (·.1), rfl, .inl hd, toK_keys kvs, by rw [List.length_map]; omega, fun ys p per ord np => ?_⟩
    have hd2 : DiI (upd H' p (.lst (ys.map V.int))) m kvs := same_upd np _ _ hd
    have ly : ys.length ≤ 16 := by rw [per.length_eq, List.length_map]; exact l16
    refine ⟨p, rfl, ⟨_, SqL.of upd_same⟩, fun D hD => lc_joined (K := K) hD upd_same hd2 (fun y hy => ?_) (by omega) (fun _ => rfl) (fun y v H3 R h3 ev r => ?_) (fun y v H3 R h3 ev r => ?_) fun H3 s3 hj => ?_⟩
    · obtain ⟨q, hq', e⟩ := List.mem_map.mp (per.mem_iff.mp hy)
      exact ⟨q.2, by rw [← e]; exact getI_of_mem nd hq'⟩
    · have g := DiI.get h3 y
      rw [ev] at g
      exact ⟨_, rfl, _, rfl, m, _, rfl, g, rfl, _, rfl, r⟩
    · have g := DiI.get h3 y
      rw [ev] at g
      exact ⟨_, rfl, _, rfl, _, rfl, m, _, rfl, g, r⟩
    · have J : Joined ps qs (jlist kvs ys) := jlist_joined nd (fun f => by rw [hS, S_append]) hk per ord
      exact ⟨(D, jlist kvs ys), rfl, hj, (jp _ J).sm, fun H4 r s4 hr4 => qQ H4 r _ (((sm.trans (same_upd np)).trans s3).trans s4) J hr4⟩
end
end K24
/-! K24, D8: orders at the first edge. -/
namespace K24
open PySem PySem.Spec PyProof.Rows L2
theorem gc_one (x : Int) : gcI 1 x = 1 := by
  unfold gcI
  rw [show Int.natAbs 1 = 1 from rfl, Nat.gcd_one_left]
  rfl
theorem pow24 : ∀ n, n < 10 → (24 : Int) ^ n ≤ 24 ^ 9 := by decide
theorem abs_of_mul {x d r y : Int} (hd : 1 ≤ d) (e : x * d = r * y) : x.natAbs ≤ r.natAbs * y.natAbs := by
  have h : (x * d).natAbs = (r * y).natAbs := by rw [e]
  rw [Int.natAbs_mul, Int.natAbs_mul] at h
  rw [← h]
  exact Nat.le_mul_of_pos_right _ (by omega)
/-- sums stay small -/
theorem S_small {N : Int} {ps : Pairs} (n1 : 1 ≤ N) (n2 : N ≤ 24) (fit : Fit N ps) : ∀ i, i ≤ ps.length → (S (fun d => N / d) (ps.take i)).natAbs ≤ i * 1152
  | 0, _ => by simp [S]
  | i + 1, h => by
    have ih := S_small n1 n2 fit i (by omega)
    have e := List.getElem?_eq_getElem (l := ps) (show i < ps.length by omega)
    rw [take_S (f := fun d => N / d) e]
    have hm := List.getElem_mem (l := ps) (show i < ps.length by omega)
    obtain ⟨r1, r2, r3⟩ := fit.rr _ hm
    obtain ⟨e1, e2⟩ := div_small (n := N) (q := ps[i].1) (B := 24) (fit.dv _ hm).1 (by decide) (by omega) (by omega)
    have k : (N / ps[i].1 * ps[i].2).natAbs ≤ 24 * 48 := by
      rw [Int.natAbs_mul]
      exact Nat.mul_le_mul (by omega) (by omega)
    have := Int.natAbs_add_le (S (fun d => N / d) (ps.take i)) (N / ps[i].1 * ps[i].2)
    show (S (fun d => N / d) (ps.take i) + N / ps[i].1 * ps[i].2).natAbs ≤ (i + 1) * 1152
    omega
section
variable {P : Program} {w : World} {K : PySem.W.Frag} {mg : Str → Option Value} {base : Heap} {f : Addr} {fd : FuncData}

abbrev s_raw_order : Stmt := topS 58
abbrev N_raw_order : List Str := ["level", "product", "c", "total", "common", "d", "r", "shared"]
theorem sc_raw_order : FnScope N_raw_order ["level", "product", "c"] (defScope s_raw_order) := ⟨rfl, rfl, rfl, by decide +kernel, rfl, by decide +kernel, by decide +kernel⟩
/- [(0, 'level'), (1, 'product'), (2, 'c'), (3, 'total'), (4, 'common'), (5, 'd'), (6, 'r'), (7, 'shared')] cells [] calls ['normal', 'number_product', 'number_sum'] -/

abbrev enNP1 (x : (Addr × Pairs) × Int) : List V := [.int x.2, .ref x.1.1, .int 1]
abbrev sp_raw_order : Sp := SpF enNP1 fun x H Q => PrT H x.1.1 x.1.2 ∧ Fit x.2 x.1.2 ∧ 1 ≤ x.2 ∧ x.2 ≤ 24 ∧ ∀ H' p, Same H H' → H' p = some (tp (S (fun d => x.2 / d) x.1.2 / 24, 1)) → Q (.ref p) H'
theorem ok_raw_order (F : Fun K "raw_order" "raw_order" s_raw_order f fd) (T : Bl mg) (h_normal : Has P w K mg base 1 "normal" ["top", "bottom"] sp_normal) (h_number_sum : Has P w K mg base 2 "number_sum" ["one", "other"] sp_number_sum)
    (h_number_product : Has P w K mg base 2 "number_product" ["one", "other"] sp_number_product) : FnOk P w K mg base CX0 3 f fd ["level", "product", "c"] sp_raw_order := by
  refine okF F sc_raw_order (fun _ => rfl) fun cdv A outer s H x Q E hr q => ?_
  refine ⟨_, (pss_cons (ps_par (i := 3) (j := 4) (by rfl) sc_raw_order.nd rfl rfl (by decide) rfl rfl (pa_cons (pe_tup (pa_cons pe_int (pa_cons pe_int pa_nil))) (pa_cons (pe_callBfun cr_gcd (by rfl) T.gcd (pa_cons (pv 2) (pa_cons (pe_op op_fdivW (pv 0) (pv 2)) pa_nil))) pa_nil)) (by rfl))
  (pss_cons (ps_for PassesOwn.never rfl (pi_tup (pv 1)) (pg_tup rfl (pgs_cons (pg_name (i := 5) sc_raw_order.nd rfl (.inl rfl)) (pgs_cons (pg_name (i := 6) sc_raw_order.nd rfl (.inl rfl)) pgs_nil)))
    (pss_cons (ps_set (i := 7) sc_raw_order.nd rfl (.inl rfl) (pe_callBfun cr_gcd (by rfl) T.gcd (pa_cons (pv 2) (pa_cons (pv 5) pa_nil))))
  (pss_one (ps_set (i := 3) sc_raw_order.nd rfl (.inl rfl) (pe_fn h_number_sum (hr.mono (by decide)) (by rfl) (pa_cons (pv 3) (pa_cons (pe_fn h_normal (hr.mono (by decide)) (by rfl) (pa_cons (pe_op op_mulW (pe_op op_mulW (pv 7) (pv 7)) (pv 6)) (pa_cons (pv 5) pa_nil))) pa_nil)))))))
  (pss_one (ps_ret (pe_fn h_number_product (hr.mono (by decide)) (by rfl) (pa_cons (pv 3) (pa_cons (pe_fn h_normal (hr.mono (by decide)) (by rfl) (pa_cons (pv 0) (pa_cons (pe_op op_mulW (pe_op op_mulW pe_int (pv 4)) (pv 2)) pa_nil))) pa_nil))))))), ?_⟩
  obtain ⟨⟨a, ps⟩, N⟩ := x
  obtain ⟨hp, fit, n1, n2, qQ⟩ := q
  have fit : Fit N ps := fit
  have n1 : 1 ≤ N := n1
  have n2 : N ≤ 24 := n2
  have hp : PrT H a ps := hp
  have l8 := fit.len
  refine ⟨by show 2 ≤ sizeLine; decide, fun t nt => ?_⟩
  refine ⟨_, rfl, _, rfl, _, rfl, N, 1, rfl, rfl, div_ok (by decide) (by decide), 1, N / 1, rfl, _, _, rfl, ?_⟩
  have s1 : Same H (upd H t (.tup [.int 0, .int 1])) := same_upd nt
  refine ⟨_, rfl, a, rfl, (hp.same s1).sqx, for_pairs (ps := ps) (fun i σ H' => ∃ (t : Addr) (x y : Int) (o5 o6 o7 : Option V), σ = [some (.int N), some (.ref a), some (.int 1), some (.ref t), some (.int 1), o5, o6, o7] ∧ Same H H' ∧ H' t = some (tp (x, y)) ∧
      Frac N x y (S (fun d => N / d) (ps.take i)) ∧ y ≤ 24 ^ i) ⟨t, 0, 1, none, none, none, ?_, s1, upd_same, ⟨by decide, by simp [S]⟩, by decide⟩ ?_ ?_ ?_⟩
  · have e : gcI 1 (N / 1) = 1 := gc_one _
    have e2 : [some (V.int N), some (V.ref a), some (V.int 1), some (V.ref t), some (V.int (gcI 1 (N / 1))), none, none, none] = [some (V.int N), some (V.ref a), some (V.int 1), some (V.ref t), some (V.int 1), none, none, none] := by rw [e]
    exact e2
  · rintro i σ H' ⟨_, _, _, _, _, _, _, sm, _⟩
    exact hp.same sm
  · rintro i q σ H' hq ⟨t, x, y, o5, o6, o7, rfl, sm, ht, F, hy⟩
    have hm := mem_at hq
    have ilt := (List.getElem?_eq_some_iff.mp hq).1
    have d1 := (fit.dv q hm).1
    have d2 := fit.le n1 hm
    obtain ⟨r0, r1, r2⟩ := fit.rr q hm
    -- shared = gcd(c, d)
    refine ⟨_, rfl, _, rfl, 1, q.1, rfl, ?_⟩
    have esh : (((Nat.gcd (Int.natAbs 1) q.1.natAbs : Nat) : Int)) = 1 := gc_one q.1
    rw [esh]
    refine ⟨_, rfl, _, rfl, _, rfl, _, _, rfl, rfl, mul_ok (by decide) (by decide) (by decide) (by decide), _, rfl, _, _, rfl, rfl, mul_ok (by decide) (by decide) (by omega) (by omega), _, rfl, ?_⟩
    have dpos : 0 < q.1 := by omega
    refine ⟨(1 * 1 * q.2, q.1), rfl, dpos, Nat.lt_trans (show q.1.natAbs < 2 ^ 60 by omega) (by decide), fun H2 u s2 hu => ?_⟩
    obtain ⟨g1, g2, g3, g4, g5⟩ := norm_frac (x := q.2) dpos
    have hu : H2 u = some (tp (1 * 1 * q.2 / gcI (1 * 1 * q.2) q.1, q.1 / gcI (1 * 1 * q.2) q.1)) := hu
    rw [show (1 : Int) * 1 * q.2 = q.2 by omega] at hu
    generalize q.2 / gcI q.2 q.1 = x2 at *
    generalize q.1 / gcI q.2 q.1 = y2 at *
    obtain ⟨y0, ex⟩ := F
    have c9 := pow24 i (by omega)
    have k9 : (24 : Int) ^ 9 = 2641807540224 := by decide
    have bx : x.natAbs < 2 ^ 60 := by
      have h := abs_of_mul n1 ex
      have hs := S_small n1 n2 fit i (by omega)
      have : y.natAbs * (S (fun d => N / d) (ps.take i)).natAbs ≤ 2641807540224 * 9216 := Nat.mul_le_mul (by omega) (by omega)
      omega
    have bx2 : x2.natAbs < 2 ^ 60 := by
      have h := abs_of_mul d1 g5
      have : q.2.natAbs * y2.natAbs ≤ 48 * 24 := Nat.mul_le_mul (by omega) (by omega)
      omega
    refine ⟨((t, x, y), (u, x2, y2)), rfl, s2 _ _ ht, hu, bx, (show y.natAbs < 2 ^ 60 by omega), bx2, (show y2.natAbs < 2 ^ 60 by omega), y0, g3, fun H3 v s3 hv => ?_⟩
    have Y : 0 < y * y2 := Int.mul_pos y0 g3
    obtain ⟨w1, w2, w3, w4, w5⟩ := norm_frac (x := x * y2 + x2 * y) Y
    refine ⟨v, _, _, some (.int q.1), some (.int q.2), some (.int 1), rfl, (sm.trans s2).trans s3, hv, ?_, ?_⟩
    · rw [take_S (f := fun d => N / d) hq]
      exact Frac.add ⟨y0, ex⟩ d1 (fit.dv q hm).2 g3 g5 w3 w5
    · refine Int.le_trans w4 ?_
      rw [Int.pow_succ]
      exact Int.mul_le_mul hy (by omega) (by omega) (by omega)
  · rintro σ H' ⟨t, x, y, o5, o6, o7, rfl, sm, ht, F, hy⟩
    rw [List.take_length] at F
    refine ⟨_, rfl, _, rfl, _, rfl, _, _, rfl, rfl, mul_ok (by decide) (by decide) (by decide) (by decide), _, rfl, _, _, rfl, rfl, mul_ok (by decide) (by decide) (by decide) (by decide), ?_⟩
    refine ⟨(N, 24), rfl, (show (0 : Int) < 24 by decide), (show (24 : Int).natAbs < 2 ^ 200 by decide), fun H2 u s2 hu => ?_⟩
    obtain ⟨g1, g2, g3, g4, g5⟩ := norm_frac (x := N) (y := 24) (by decide)
    have hu : H2 u = some (tp (N / gcI N 24, 24 / gcI N 24)) := hu
    obtain ⟨z1, z2⟩ := div_small (n := N) (q := gcI N 24) (B := 24) (by omega) (by decide) (by omega) (by omega)
    generalize N / gcI N 24 = n' at *
    generalize (24 : Int) / gcI N 24 = m' at *
    have T1 := Frac.times n1 F fit.tu g3 g5
    obtain ⟨y0, ex⟩ := F
    have c9 := pow24 ps.length (by omega)
    have k9 : (24 : Int) ^ 9 = 2641807540224 := by decide
    have bx : x.natAbs < 2 ^ 60 := by
      have h := abs_of_mul n1 ex
      have hs := S_small n1 n2 fit ps.length (Nat.le_refl _)
      rw [List.take_length] at hs
      have : y.natAbs * (S (fun d => N / d) ps).natAbs ≤ 2641807540224 * 9216 := Nat.mul_le_mul (by omega) (by omega)
      omega
    refine ⟨((t, x, y), (u, n', m')), rfl, s2 _ _ ht, hu, bx, (show y.natAbs < 2 ^ 60 by omega), (show n'.natAbs < 2 ^ 60 by omega), (show m'.natAbs < 2 ^ 60 by omega), y0, g3, fun H3 v s3 hv => qQ H3 v ((sm.trans s2).trans s3) ?_⟩
    have Y : 0 < y * m' := Int.mul_pos y0 g3
    have hv : H3 v = some (tp (x * n' / gcI (x * n') (y * m'), y * m' / gcI (x * n') (y * m'))) := hv
    rw [T1] at hv
    obtain ⟨e1, e2⟩ := norm_whole (k := S (fun d => N / d) ps / 24) Y
    rw [e1, e2] at hv
    exact hv

abbrev s_need_both : Stmt := topS 59
abbrev N_need_both : List Str := ["level", "product", "d", "r"]
theorem sc_need_both : FnScope N_need_both ["level", "product"] (defScope s_need_both) := ⟨rfl, rfl, rfl, by decide +kernel, rfl, by decide +kernel, by decide +kernel⟩
/- [(0, 'level'), (1, 'product'), (2, 'd'), (3, 'r')] cells ['level'] calls ['need_level', 'need_product'] -/

abbrev sp_need_both : Sp := SpF (fun x : (Addr × Pairs) × Int => [.int x.2, .ref x.1.1]) fun x H Q => PrT H x.1.1 x.1.2 ∧ Fit x.2 x.1.2 ∧ 1 ≤ x.2 ∧ x.2 ≤ 400 ∧ ∀ H', Same H H' → Q .non H'
theorem ok_need_both (F : Fun K "need_both" "need_both" s_need_both f fd) (T : Bl mg) (h_need_product : Has P w K mg base 4 "need_product" ["product"] sp_need_product) (h_need_level : Has P w K mg base 4 "need_level" ["level"] sp_need_level) :
    FnOk P w K mg base CX0 5 f fd ["level", "product"] sp_need_both := by
  refine okF F sc_need_both (fun _ => rfl) fun cdv A outer s H x Q E hr q => ?_
  refine ⟨_, (pss_cons (ps_expr (pe_fn h_need_level (hr.mono (by decide)) (by rfl) (pa_cons (pv 0) pa_nil)))
  (pss_cons (ps_expr (pe_fn h_need_product (hr.mono (by decide)) (by rfl) (pa_cons (pv 1) pa_nil)))
  (pss_one (ps_if (pt_not (pt_val (pe_callB (cr_all rfl) (by rfl) T.all (by decide +kernel) (pa_cons (pe_lc (own := [("d", 2), ("r", 3)]) (g := (gTup K 2 (gCons (gName 2) (gCons (gName 3) gNil)))) rfl sc_need_both.nd (pi_tup (pv 1)) (blkOk_by (own := [("d", 2), ("r", 3)]) (N := N_need_both) (sc := defScope s_need_both) (by decide +kernel)) (fun _ _ _ _ _ => pg_tup rfl (pgs_cons (pg_name (i := 2) sc_need_both.nd rfl (Or.inl rfl)) (pgs_cons (pg_name (i := 3) sc_need_both.nd rfl (Or.inl rfl)) pgs_nil))) (fun _ _ _ _ _ => pts_nil) (fun _ _ _ _ _ => (pe_cmpR op_eq (pe_op op_mod (pv 0) (pv 2)) pe_int (nomark _)))) pa_nil))))
    (pss_one ps_never)
    pss_nil)))), ?_⟩
  obtain ⟨⟨a, ps⟩, N⟩ := x
  obtain ⟨hp, fit, n1, n2, q⟩ := q
  have fit : Fit N ps := fit
  have n1 : 1 ≤ N := n1
  have n2 : N ≤ 400 := n2
  have hi := fit.prod n1 n2
  refine ⟨_, rfl, N, rfl, n1, n2, _, rfl, (a, ps), rfl, hp, hi, ?_⟩
  refine ⟨_, rfl, a, rfl, hp.sqx, fun D hD => lc_pairs (K := K) hD (fun q => .bl (decide (V.int (N % q.1) = V.int 0))) hp (len1000 hi) (fun _ _ => rfl) (fun q hq H' R sm r => ?_) fun H' sm hd' => ?_⟩
  · obtain ⟨c1, _⟩ := hi.2.2 q hq
    exact ⟨_, rfl, _, rfl, _, _, rfl, rfl, (by omega : (0 : Int) < q.1), rfl, r⟩
  · rw [map_bl (f := fun q => decide (V.int (N % q.1) = V.int 0))] at hd'
    refine ⟨D, _, rfl, SqL.of hd', _, rfl, ?_⟩
    rw [all_id fun q hq => decide_eq_true (vEq (fit.dv q hq).2)]
    exact iteF (q H' sm)

abbrev s_order_at : Stmt := topS 60
abbrev N_order_at : List Str := ["level", "product", "c"]
theorem sc_order_at : FnScope N_order_at ["level", "product", "c"] (defScope s_order_at) := ⟨rfl, rfl, rfl, by decide +kernel, rfl, by decide +kernel, by decide +kernel⟩
/- [(0, 'level'), (1, 'product'), (2, 'c')] cells [] calls ['is_integer', 'need_both', 'raw_order'] -/

theorem ok_order_at (F : Fun K "order_at" "order_at" s_order_at f fd) (T : Bl mg) (h_need_both : Has P w K mg base 5 "need_both" ["level", "product"] sp_need_both) (h_is_integer : Has P w K mg base 1 "is_integer" ["thing"] sp_is_integer) (h_raw_order : Has P w K mg base 3 "raw_order" ["level", "product", "c"] sp_raw_order) :
    FnOk P w K mg base CX0 6 f fd ["level", "product", "c"] sp_raw_order := by
  refine okF F sc_order_at (fun _ => rfl) fun cdv A outer s H x Q E hr q => ?_
  refine ⟨_, (pss_cons (ps_expr (pe_fn h_need_both (hr.mono (by decide)) (by rfl) (pa_cons (pv 0) (pa_cons (pv 1) pa_nil))))
  (pss_cons (ps_if (PW.pt (pw_or (pt_not (pt_val (pe_fn h_is_integer (hr.mono (by decide)) (by rfl) (pa_cons (pv 2) pa_nil)))) (pw_or (pt_cmpR op_lt (pv 2) pe_int (nomark _)) (pw_or1 (pt_cmpR op_ne (pe_op op_mod (pv 0) (pv 2)) pe_int (nomark _))))))
    (pss_one ps_never)
    pss_nil)
  (pss_one (ps_ret (pe_fn h_raw_order (hr.mono (by decide)) (by rfl) (pa_cons (pv 0) (pa_cons (pv 1) (pa_cons (pv 2) pa_nil)))))))), ?_⟩
  obtain ⟨⟨a, ps⟩, N⟩ := x
  obtain ⟨hp, fit, n1, n2, q⟩ := q
  have n1 : 1 ≤ N := n1
  have n2 : N ≤ 24 := n2
  refine ⟨_, rfl, _, rfl, ((a, ps), N), rfl, hp, fit, n1, (show N ≤ 400 by omega), fun H1 s1 => ?_⟩
  refine ⟨_, rfl, 1, rfl, true, rfl, iteF ⟨_, rfl, _, _, rfl, rfl, _, rfl, iF (by decide) ?_⟩⟩
  refine ⟨_, rfl, _, rfl, _, _, rfl, rfl, (show (0 : Int) < 1 by decide), rfl, _, rfl, iteNS (vEq (Int.emod_one N)) ?_⟩
  exact ⟨_, rfl, _, rfl, _, rfl, ((a, ps), N), rfl, hp.same s1, fit, n1, n2, fun H2 p s2 h2 => q H2 p (s1.trans s2) h2⟩
end
end K24
/-! K24, D9: the law's deck, draws, divisors. -/
namespace K24
open PySem PySem.Spec PyProof.Rows L2
/-! ### the deck -/
def dk3 (l : Addr) (mx dr : Int) : List (Key × V) := [(.inr "left", .ref l), (.inr "mixed", .int mx), (.inr "draws", .int dr)]
def DeckAt (H : Hp) (dk l : Addr) (cs : List Int) (mx dr : Int) : Prop := H dk = some (.dK (dk3 l mx dr)) ∧ H l = some (.lst (cs.map V.int)) ∧ cs.length ≤ 63 ∧ 0 ≤ mx ∧ mx < 2147483587
def DeckOk (H : Hp) (dk l : Addr) : Prop := ∃ cs mx dr, DeckAt H dk l cs mx dr
/-- all but the deck and its list is as it was -/
def Btw (dk l : Addr) (H H' : Hp) : Prop := ∀ b o, H b = some o → b ≠ dk → b ≠ l → H' b = some o
theorem Btw.refl (dk l : Addr) (H : Hp) : Btw dk l H H := fun _ _ h _ _ => h
theorem Btw.trans {dk l : Addr} {H H1 H2 : Hp} (a : Btw dk l H H1) (b : Btw dk l H1 H2) : Btw dk l H H2 := fun c o h x y => b c o (a c o h x y) x y
theorem Btw.of {dk l : Addr} {H H' : Hp} (s : Same H H') : Btw dk l H H' := fun b o h _ _ => s b o h
theorem DeckOk.same {H H' : Hp} {dk l : Addr} (s : Same H H') (d : DeckOk H dk l) : DeckOk H' dk l := by
  obtain ⟨cs, mx, dr, a, b, c⟩ := d
  exact ⟨cs, mx, dr, s _ _ a, s _ _ b, c⟩
theorem DeckOk.ne {H : Hp} {dk l : Addr} (d : DeckOk H dk l) : dk ≠ l := by
  obtain ⟨cs, mx, dr, a, b, c⟩ := d
  exact ne_of a b (by intro z; cases z)
theorem get_left (l : Addr) (mx dr : Int) : valV (dk3 l mx dr) (.inr "left") = some (.ref l) := by rfl
theorem get_mixed (l : Addr) (mx dr : Int) : valV (dk3 l mx dr) (.inr "mixed") = some (.int mx) := by rfl
theorem get_draws (l : Addr) (mx dr : Int) : valV (dk3 l mx dr) (.inr "draws") = some (.int dr) := by rfl
theorem put_draws (l : Addr) (mx dr n : Int) : putK (dk3 l mx dr) (.inr "draws") (.int n) = dk3 l mx n := by rfl
theorem dget_left {H : Hp} {dk l : Addr} {mx dr : Int} (h : H dk = some (.dK (dk3 l mx dr))) : DGet H dk (.str "left") (some (.ref l)) := by
  rw [← get_left l mx dr]
  exact DGet.k (k := .inr "left") h
theorem dget_mixed {H : Hp} {dk l : Addr} {mx dr : Int} (h : H dk = some (.dK (dk3 l mx dr))) : DGet H dk (.str "mixed") (some (.int mx)) := by
  rw [← get_mixed l mx dr]
  exact DGet.k (k := .inr "mixed") h
theorem dget_draws {H : Hp} {dk l : Addr} {mx dr : Int} (h : H dk = some (.dK (dk3 l mx dr))) : DGet H dk (.str "draws") (some (.int dr)) := by
  rw [← get_draws l mx dr]
  exact DGet.k (k := .inr "draws") h
theorem dput_draws {H : Hp} {dk l : Addr} {mx dr : Int} (n : Int) (h : H dk = some (.dK (dk3 l mx dr))) : DPut H dk (.str "draws") (.int n) (upd H dk (.dK (dk3 l mx n))) := by
  rw [← put_draws l mx dr n]
  exact DPut.k (k := .inr "draws") h (small1000 (by show 3 ≤ 1000; decide))
theorem shaped_ints (cs : List Int) : SeqAt.shaped (.list (cs.map PyData.int)) = true := by
  have h : ∀ cs : List Int, PyData.canLayAll0 (cs.map PyData.int) = true ∧ PyData.depthAll (cs.map PyData.int) = 0 := by
    intro cs
    induction cs with
    | nil => exact ⟨by simp [PyData.canLayAll0], by simp [PyData.depthAll]⟩
    | cons x r ih =>
      refine ⟨?_, ?_⟩
      · rw [List.map_cons, PyData.canLayAll0, ih.1]
        simp [PyData.canLay0]
      · rw [List.map_cons, PyData.depthAll, ih.2]
        simp [PyData.depth]
  unfold SeqAt.shaped
  rw [PyData.canLay0, PyData.depth, (h cs).1, (h cs).2]
  rfl
theorem dp_ints {K : PySem.W.Frag} {H : Hp} : ∀ cs : List Int, DpAll K H (cs.map V.int) (cs.map PyData.int)
  | [] => .nil
  | x :: r => .cons (.int x) (dp_ints r)
theorem eqv_nil (cs : List Int) : PyData.eqv (.list (cs.map PyData.int)) (.list []) = cs.isEmpty := by
  cases cs with
  | nil => rw [List.map_nil, PyData.eqv, PyData.eqvAll]; rfl
  | cons x r => rw [List.map_cons, PyData.eqv, PyData.eqvAll]; rfl
theorem mod_range {a b : Int} (h : 0 < b) : 0 ≤ a % b ∧ a % b < b := ⟨Int.emod_nonneg _ (by omega), Int.emod_lt_of_pos _ h⟩
section
variable {P : Program} {w : World} {K : PySem.W.Frag} {mg : Str → Option Value} {base : Heap} {f : Addr} {fd : FuncData}

abbrev s_law_deck : Stmt := topS 62
abbrev N_law_deck : List Str := ["_law_script", "_law_mixed", "_law_cell"]
theorem sc_law_deck : FnScope N_law_deck ["_law_script"] (defScope s_law_deck) := ⟨rfl, rfl, rfl, by decide +kernel, rfl, by decide +kernel, by decide +kernel⟩
/- [(0, '_law_script'), (1, '_law_mixed'), (2, '_law_cell')] cells [] calls [] -/

abbrev sp_law_deck (K : PySem.W.Frag) : Sp := SpF (fun x : Addr × List Int => [.ref x.1]) fun x H Q => SqL K H x.1 (x.2.map V.int) ∧ x.2.length ≤ 63 ∧ ∀ H' dk l, Same H H' → DeckOk H' dk l → Q (.ref dk) H'
theorem cut_ints (ns : List Int) (lo hi : Option Int) : ∃ cs : List Int, cutV (ns.map V.int) lo hi = cs.map V.int ∧ cs.length ≤ ns.length := by
  unfold cutV
  rw [← List.map_drop, ← List.map_take]
  refine ⟨_, rfl, ?_⟩
  rw [List.length_take, List.length_drop]
  omega
theorem ok_law_deck (F : Fun K "_law_deck" "_law_deck" s_law_deck f fd) (T : Bl mg) : FnOk P w K mg base CX0 1 f fd ["_law_script"] (sp_law_deck K) := by
  refine okF F sc_law_deck (fun _ => rfl) fun cdv A outer s H x Q E hr q => ?_
  refine ⟨_, (pss_cons (ps_set (i := 1) sc_law_deck.nd rfl (.inl rfl) pe_int)
  (pss_cons (ps_for PassesOwn.never rfl (pi_list (pe_slice sl_list (pv 0) po_none (po_some pe_int))) (pg_name (i := 2) sc_law_deck.nd rfl (.inl rfl))
    (pss_one (ps_set (i := 1) sc_law_deck.nd rfl (.inl rfl) (pe_op op_mod (pe_callTy call_int1 (by rfl) T.int (by decide +kernel) (pa_cons (pe_op op_add (pe_op op_add (pe_op op_mul (pv 1) pe_int) (pe_op op_mod (pe_callTy call_int1 (by rfl) T.int (by decide +kernel) (pa_cons (pv 2) pa_nil)) pe_int)) pe_int) pa_nil)) pe_int))))
  (pss_one (ps_ret (pe_disp (pps_cons pe_str (pe_revL (pe_callTy call_list_of (by rfl) T.list (by decide +kernel) (pa_cons (pe_slice sl_list (pv 0) po_none (po_some pe_int)) pa_nil))) (pps_cons pe_str (pv 1) (pps_cons pe_str pe_int pps_nil))) (by rfl) (by rfl) (fun z => by cases z) (by decide)))))), ?_⟩
  obtain ⟨a, ns⟩ := x
  obtain ⟨hS, hl, q⟩ := q
  have hl : ns.length ≤ 63 := hl
  obtain ⟨cs, ec, lc⟩ := cut_ints ns none (some 63)
  refine ⟨_, rfl, 63, rfl, a, ns.map V.int, rfl, hS, fun p np => ?_⟩
  have s1 : Same H (upd H p (.lst (cutV (ns.map V.int) none (some 63)))) := same_upd np
  rw [ec] at s1 ⊢
  refine ⟨p, rfl, ⟨_, SqL.of upd_same⟩, for_list (xs := cs.map V.int) (fun i σ H' => ∃ (mx : Int) (o : Option V), σ = [some (.ref a), some (.int mx), o] ∧ H' = upd H p (.lst (cs.map V.int)) ∧ 0 ≤ mx ∧ mx < 2147483587) ⟨10883241, _, rfl, rfl, by decide, by decide⟩ ?_ ?_ ?_⟩
  · rintro i σ H' _ ⟨_, _, _, rfl, _⟩
    exact SqL.of upd_same
  · rintro i v σ H' hv ⟨mx, o, rfl, rfl, m1, m2⟩
    rw [List.getElem?_map] at hv
    obtain ⟨c, _, rfl⟩ := Option.map_eq_some_iff.mp hv
    refine ⟨_, rfl, _, _, rfl, rfl, .inl ⟨by omega, by omega⟩, _, rfl, .inl ⟨c, rfl, _, _, rfl, rfl, (by decide : (0 : Int) < 2147483629), _, _, rfl, rfl, _, _, rfl, rfl, .inl ⟨_, rfl, _, _, rfl, rfl, (by decide : (0 : Int) < 2147483587), ?_⟩⟩⟩
    obtain ⟨z1, z2⟩ := mod_range (a := mx * 40692 + c % 2147483629 + 73) (b := 2147483587) (by decide)
    exact ⟨_, _, rfl, rfl, z1, z2⟩
  · rintro σ H' ⟨mx, o, rfl, rfl, m1, m2⟩
    -- return {'left': .., 'mixed': .., 'draws': 0}
    refine fun d nd => ?_
    have s2 := s1.trans (same_upd (o := .dK []) nd)
    have hd2 : upd (upd H p (.lst (cs.map V.int))) d (.dK []) d = some (.dK []) := upd_same
    refine ⟨_, rfl, 63, rfl, a, ns.map V.int, rfl, s2.seq hS, fun p2 np2 => ?_⟩
    rw [ec]
    refine ⟨p2, cs.map V.int, rfl, .inl (SqL.of upd_same), fun p3 np3 => ⟨p3, cs.map V.int, rfl, SqL.of upd_same, fun p4 np4 => ?_⟩⟩
    have s3 := ((same_upd (o := .lst (cs.map V.int)) np2).trans (same_upd (o := .lst (cs.map V.int)) np3)).trans (same_upd (o := .lst ((cs.map V.int).reverse)) np4)
    refine ⟨_, rfl, s3 _ _ hd2, [(.inr "left", .ref p4), (.inr "mixed", .int mx), (.inr "draws", .int 0)], rfl, (show 3 ≤ 15 by decide), ?_⟩
    have nd4 : p4 ≠ d := fun z => by
      have := ((same_upd (o := .lst (cs.map V.int)) np2).trans (same_upd (o := .lst (cs.map V.int)) np3)) _ _ hd2
      rw [z, this] at np4
      cases np4
    have dn : H d = none := Same.free s1 nd
    refine q _ d p4 (fun b o z => ?_) ⟨cs.reverse, mx, 0, ?_, ?_, ?_, m1, m2⟩
    · rw [upd_ne (ne_of_none z dn)]
      exact s3 _ _ (s2 _ _ z)
    · rw [upd_same]
      rfl
    · rw [upd_ne nd4, upd_same, List.map_reverse]
    · rw [List.length_reverse]; omega

abbrev s_law_draw : Stmt := topS 63
abbrev N_law_draw : List Str := ["_law_deck_here", "_law_many", "_law_figure", "_law_cell"]
theorem sc_law_draw : FnScope N_law_draw ["_law_deck_here", "_law_many"] (defScope s_law_draw) := ⟨rfl, rfl, rfl, by decide +kernel, rfl, by decide +kernel, by decide +kernel⟩
/- [(0, '_law_deck_here'), (1, '_law_many'), (2, '_law_figure'), (3, '_law_cell')] cells [] calls [] -/

abbrev enD (x : (Addr × Addr) × Int) : List V := [.ref x.1.1, .int x.2]
abbrev sp_law_draw : Sp := SpF enD fun x H Q => DeckOk H x.1.1 x.1.2 ∧ 1 ≤ x.2 ∧ x.2 ≤ 10000 ∧ ∀ H' r, Btw x.1.1 x.1.2 H H' → DeckOk H' x.1.1 x.1.2 → 0 ≤ r → r < x.2 → Q (.int r) H'
theorem ok_law_draw (F : Fun K "_law_draw" "_law_draw" s_law_draw f fd) (T : Bl mg) : FnOk P w K mg base CX0 1 f fd ["_law_deck_here", "_law_many"] sp_law_draw := by
  refine okF F sc_law_draw (fun _ => rfl) fun cdv A outer s H x Q E hr q => ?_
  refine ⟨_, (pss_cons (ps_dput (hu_of hr) (pv 0) pe_str (pe_op op_add (pe_dget (hu_of hr) (pv 0) pe_str (fun _ _ => rfl)) pe_int) rfl)
  (pss_cons (ps_set (i := 2) sc_law_draw.nd rfl (.inl rfl) (pe_op op_add (pe_dget (hu_of hr) (pv 0) pe_str (fun _ _ => rfl)) (pe_op op_mul pe_int (pe_dget (hu_of hr) (pv 0) pe_str (fun _ _ => rfl)))))
  (C8.pss_cut (ps_if (pt_cmpR (op_neD hr.units) (pe_dget (hu_of hr) (pv 0) pe_str (fun _ _ => rfl)) (pe_lst pa_nil) (nomark _))
    (pss_cons (ps_set (i := 3) sc_law_draw.nd rfl (.inl rfl) (pe_bm0 PySem.F.plainAttrs_list PySem.F.slot_list_pop PySem.F.type_list_pop mt_pop (pe_dget (hu_of hr) (pv 0) pe_str (fun _ _ => rfl))))
  (pss_cons (ps_if (pt_cmpR op_ge (pv 3) (pe_op op_pow pe_int pe_int) (nomark _))
    (pss_cons (ps_expr (pe_bm PySem.F.plainAttrs_list PySem.F.slot_list_append PySem.F.type_list_append mt_append (pe_dget (hu_of hr) (pv 0) pe_str (fun _ _ => rfl)) (pa_cons (pe_op op_fdivW (pv 3) (pe_callB (call_max2 rfl) (by rfl) T.max (by decide +kernel) (pa_cons pe_int (pa_cons (pv 1) pa_nil)))) pa_nil)))
  (pss_one (ps_ret (pe_op op_mod (pe_callTy call_int1 (by rfl) T.int (by decide +kernel) (pa_cons (pv 3) pa_nil)) (pv 1)))))
    pss_nil)
  (pss_one (ps_set (i := 2) sc_law_draw.nd rfl (.inl rfl) (pe_op op_add (pv 2) (pe_op op_mod (pe_callTy call_int1 (by rfl) T.int (by decide +kernel) (pa_cons (pv 3) pa_nil)) pe_int))))))
    pss_nil)
  (pss_cons (ps_set (i := 2) sc_law_draw.nd rfl (.inl rfl) (pe_op op_mod (pe_callTy call_int1 (by rfl) T.int (by decide +kernel) (pa_cons (pe_op op_add (pe_op op_mul (pv 2) pe_int) pe_int) pa_nil)) pe_int))
  (pss_cons (ps_set (i := 2) sc_law_draw.nd rfl (.inl rfl) (pe_op op_mod (pe_callTy call_int1 (by rfl) T.int (by decide +kernel) (pa_cons (pe_op op_add (pe_op op_add (pe_op op_mul (pv 2) (pv 2)) (pe_op op_mul pe_int (pe_dget (hu_of hr) (pv 0) pe_str (fun _ _ => rfl)))) pe_int) pa_nil)) pe_int))
  (pss_cons (ps_set (i := 2) sc_law_draw.nd rfl (.inl rfl) (pe_op op_mod (pe_callTy call_int1 (by rfl) T.int (by decide +kernel) (pa_cons (pe_op op_mul (pv 2) pe_int) pa_nil)) pe_int))
  (pss_one (ps_ret (pe_op op_mod (pe_callTy call_int1 (by rfl) T.int (by decide +kernel) (pa_cons (pe_op op_fdivW (pv 2) pe_int) pa_nil)) (pv 1)))))))))), ?_⟩
  obtain ⟨⟨dk, l⟩, many⟩ := x
  obtain ⟨⟨cs, mx, dr, hd, hl, lc, m1, m2⟩, n1, n2, qQ⟩ := q
  have hd : H dk = some (.dK (dk3 l mx dr)) := hd
  have hl : H l = some (.lst (cs.map V.int)) := hl
  have n1 : 1 ≤ many := n1
  have n2 : many ≤ 10000 := n2
  have hne : l ≠ dk := ne_of hl hd (by intro z; cases z)
  refine ⟨_, rfl, _, _, rfl, dget_draws hd, _, _, rfl, rfl, _, rfl, dk, _, rfl, dput_draws (dr + 1) hd, ?_⟩
  have hd1 : upd H dk (.dK (dk3 l mx (dr + 1))) dk = some (.dK (dk3 l mx (dr + 1))) := upd_same
  have hl1 : upd H dk (.dK (dk3 l mx (dr + 1))) l = some (.lst (cs.map V.int)) := by rw [upd_ne hne]; exact hl
  have b1 : Btw dk l H (upd H dk (.dK (dk3 l mx (dr + 1)))) := fun b o z x _ => by rw [upd_ne x]; exact z
  generalize upd H dk (.dK (dk3 l mx (dr + 1))) = H1 at *
  refine ⟨_, rfl, _, _, rfl, dget_mixed hd1, _, rfl, _, _, rfl, dget_draws hd1, _, _, rfl, rfl, .inl ⟨by decide, by decide⟩, _, _, rfl, rfl, ?_⟩
  -- if deck['left'] != []: a way out, or another figure
  refine ⟨fun σ' H2 => ∃ (fig : Int) (o3 : Option V), σ' = [some (.ref dk), some (.int many), some (.int fig), o3] ∧ Btw dk l H H2 ∧ ∃ cs, DeckAt H2 dk l cs mx (dr + 1), ?_, ?_⟩
  · refine ⟨_, rfl, _, _, rfl, dget_left hd1, Nat.zero_le _, fun e ne => ?_⟩
    have se := same_upd (o := .lst []) ne
    refine ⟨.list (cs.map PyData.int), .list [], .lst (SqL.of (se _ _ hl1)) (dp_ints cs), .lst (SqL.of upd_same) .nil, shaped_ints cs, by decide, _, rfl, ?_⟩
    rw [eqv_nil]
    have hd2 := se _ _ hd1
    have hl2 := se _ _ hl1
    have b2 := b1.trans (Btw.of se)
    generalize upd H1 e (.lst []) = H2 at *
    cases hcs : cs.isEmpty with
    | true => exact iteF ⟨_, _, rfl, b2, cs, hd2, hl2, lc, m1, m2⟩
    | false =>
      have hne0 : cs ≠ [] := fun z => by rw [z] at hcs; cases hcs
      obtain ⟨c, hc⟩ : ∃ c, cs[cs.length - 1]? = some c := ⟨cs[cs.length - 1]'(by have := List.length_pos_iff.mpr hne0; omega), List.getElem?_eq_getElem _⟩
      refine iteT ⟨_, rfl, _, _, rfl, dget_left hd2, .inl ⟨rfl, _, SqL.of hl2⟩, l, cs.map V.int, .int c, rfl, rfl, hl2, by rw [List.length_map, List.getElem?_map, hc]; rfl, ?_⟩
      have hd3 : upd H2 l (.lst (cs.map V.int).dropLast) dk = some (.dK (dk3 l mx (dr + 1))) := by rw [upd_ne hne.symm]; exact hd2
      have hl3 : upd H2 l (.lst (cs.map V.int).dropLast) l = some (.lst (cs.dropLast.map V.int)) := by rw [upd_same, List.map_dropLast]
      have b3 : Btw dk l H (upd H2 l (.lst (cs.map V.int).dropLast)) := b2.trans fun b o z _ y => by rw [upd_ne y]; exact z
      have l3 : cs.dropLast.length ≤ 62 := by rw [List.length_dropLast]; omega
      generalize upd H2 l (.lst (cs.map V.int).dropLast) = H3 at *
      refine ⟨_, rfl, _, _, rfl, rfl, ⟨by decide, by decide, by decide⟩, _, _, rfl, rfl, _, rfl, ite2 (fun _ => ?_) (fun _ => ?_)⟩
      · have mm : 0 < (if many > 2 then many else 2) ∧ (if many > 2 then many else 2) ≤ 10000 := by split <;> omega
        refine ⟨_, rfl, _, _, rfl, dget_left hd3, .inl ⟨rfl, _, SqL.of hl3⟩, _, rfl, _, rfl, 2, many, rfl, c, _, rfl, rfl, div_ok mm.1 (by omega), l, _, _, rfl, rfl, hl3, by rw [List.length_map]; exact small1000 (by omega), ?_⟩
        refine ⟨_, rfl, .inl ⟨c, rfl, _, rfl, _, _, rfl, rfl, (by omega : (0 : Int) < many), ?_⟩⟩
        obtain ⟨z1, z2⟩ := mod_range (a := c) (b := many) (by omega)
        refine qQ _ _ (b3.trans fun b o z _ y => by rw [upd_ne y]; exact z) ⟨cs.dropLast ++ [c / (if many > 2 then many else 2)], mx, dr + 1, by rw [upd_ne hne.symm]; exact hd3, by rw [upd_same, List.map_append]; rfl, by rw [List.length_append, List.length_singleton]; omega, m1, m2⟩ z1 z2
      · refine ⟨_, rfl, _, rfl, .inl ⟨c, rfl, _, _, rfl, rfl, (by decide : (0 : Int) < 2147483629), _, _, rfl, rfl, ?_⟩⟩
        exact ⟨_, _, rfl, b3, cs.dropLast, hd3, hl3, by omega, m1, m2⟩
  · rintro σ' H2 ⟨fig, o3, rfl, b2, cs2, hd2, hl2, lc2, _, _⟩
    refine ⟨_, rfl, _, _, rfl, rfl, .inr ⟨by decide, by decide⟩, _, _, rfl, rfl, .inl ⟨_, rfl, _, _, rfl, rfl, (by decide : (0 : Int) < 2147483563), ?_⟩⟩
    refine ⟨_, rfl, _, rfl, _, _, rfl, rfl, .inl ⟨by omega, by omega⟩, _, rfl, _, _, rfl, dget_draws hd2, _, _, rfl, rfl, .inl ⟨by decide, by decide⟩, _, _, rfl, rfl, _, _, rfl, rfl, .inl ⟨_, rfl, _, _, rfl, rfl, (by decide : (0 : Int) < 2147483399), ?_⟩⟩
    refine ⟨_, rfl, _, _, rfl, rfl, .inr ⟨by decide, by decide⟩, .inl ⟨_, rfl, _, _, rfl, rfl, (by decide : (0 : Int) < 2147483647), ?_⟩⟩
    refine ⟨_, rfl, _, _, rfl, rfl, div_ok (by decide) (by decide), .inl ⟨_, rfl, _, rfl, _, _, rfl, rfl, (by omega : (0 : Int) < many), ?_⟩⟩
    have m0 : 0 < many := by omega
    exact qQ _ _ b2 ⟨cs2, mx, dr + 1, hd2, hl2, lc2, m1, m2⟩ (mod_range m0).1 (mod_range m0).2

abbrev s_law_pick : Stmt := topS 64
abbrev N_law_pick : List Str := ["_law_deck_here", "_law_some"]
theorem sc_law_pick : FnScope N_law_pick ["_law_deck_here", "_law_some"] (defScope s_law_pick) := ⟨rfl, rfl, rfl, by decide +kernel, rfl, by decide +kernel, by decide +kernel⟩
/- [(0, '_law_deck_here'), (1, '_law_some')] cells [] calls ['_law_draw'] -/

abbrev sp_law_pick : Sp := SpF (fun x : (Addr × Addr) × Addr × List V => [.ref x.1.1, .ref x.2.1]) fun x H Q => DeckOk H x.1.1 x.1.2 ∧ (H x.2.1 = some (.lst x.2.2) ∨ H x.2.1 = some (.tup x.2.2)) ∧ x.2.1 ≠ x.1.2 ∧ x.2.2 ≠ [] ∧ x.2.2.length ≤ 10000 ∧
  ∀ H' v, Btw x.1.1 x.1.2 H H' → DeckOk H' x.1.1 x.1.2 → v ∈ x.2.2 → Q v H'
theorem ok_law_pick (F : Fun K "_law_pick" "_law_pick" s_law_pick f fd) (T : Bl mg) (h_law_draw : Has P w K mg base 1 "_law_draw" ["_law_deck_here", "_law_many"] sp_law_draw) : FnOk P w K mg base CX0 2 f fd ["_law_deck_here", "_law_some"] sp_law_pick := by
  refine okF F sc_law_pick (fun _ => rfl) fun cdv A outer s H x Q E hr q => ?_
  refine ⟨_, (pss_one (ps_ret (pe_ix ix_seq (pv 1) (pe_fn h_law_draw (hr.mono (by decide)) (by rfl) (pa_cons (pv 0) (pa_cons (pe_callB call_len_seq (by rfl) T.len (by decide +kernel) (pa_cons (pv 1) pa_nil)) pa_nil))) (fun _ _ => rfl)))), ?_⟩
  obtain ⟨⟨dk, l⟩, c, xs⟩ := x
  obtain ⟨hD, hc, hcl, hx, hlen, qQ⟩ := q
  have hD : DeckOk H dk l := hD
  have hc : H c = some (.lst xs) ∨ H c = some (.tup xs) := hc
  have hcl : c ≠ l := hcl
  have hx : xs ≠ [] := hx
  have hlen : xs.length ≤ 10000 := hlen
  have hdk : c ≠ dk := by
    obtain ⟨cs, mx, dr, a, _⟩ := hD
    rcases hc with z | z <;> exact ne_of z a (by intro z; cases z)
  have pos := List.length_pos_iff.mpr hx
  refine ⟨_, rfl, _, rfl, _, rfl, c, xs, rfl, (by rcases hc with z | z; exact .inl (SqL.of z); exact .inr (SqT.of z)), ((dk, l), (xs.length : Int)), rfl, hD, (by show (1 : Int) ≤ (xs.length : Int); omega), (by show (xs.length : Int) ≤ 10000; omega), fun H' r bt hD' r0 r1 => ?_⟩
  have r1 : r < (xs.length : Int) := r1
  obtain ⟨j, rfl⟩ := Int.eq_ofNat_of_zero_le r0
  have hj : j < xs.length := by omega
  have ej : xs[j]? = some xs[j] := List.getElem?_eq_getElem hj
  have fin := qQ H' xs[j] bt hD' (List.getElem_mem hj)
  rcases hc with z | z
  · exact .inl ⟨c, xs, (j : Int), xs[j], rfl, rfl, SqL.of (bt _ _ z hdk hcl), atI_nat ej, fin⟩
  · exact .inr (.inl ⟨c, xs, (j : Int), xs[j], rfl, rfl, SqT.of (bt _ _ z hdk hcl), atI_nat ej, fin⟩)

abbrev s_law_divisor : Stmt := topS 66
abbrev N_law_divisor : List Str := ["_law_one", "_law_other"]
theorem sc_law_divisor : FnScope N_law_divisor ["_law_one", "_law_other"] (defScope s_law_divisor) := ⟨rfl, rfl, rfl, by decide +kernel, rfl, by decide +kernel, by decide +kernel⟩
/- [(0, '_law_one'), (1, '_law_other')] cells [] calls [] -/

abbrev sp_law_divisor : Sp := SpF (fun x : Int × Int => [.int x.1, .int x.2]) fun x H Q => Q (.int (gcI x.1 x.2)) H
theorem gc_step {x y : Int} (hx : 0 ≤ x) (hy : 0 < y) : gcI y (x % y) = gcI x y := by
  unfold gcI
  have e : (x % y).natAbs = x.natAbs % y.natAbs := by
    obtain ⟨m, rfl⟩ := Int.eq_ofNat_of_zero_le hx
    obtain ⟨n, rfl⟩ := Int.eq_ofNat_of_zero_le (Int.le_of_lt hy)
    rfl
  rw [e, Nat.gcd_comm x.natAbs y.natAbs, Nat.gcd_comm y.natAbs (x.natAbs % y.natAbs), ← Nat.gcd_rec]
theorem absI_gc (x y : Int) : gcI (absI x) (absI y) = gcI x y := by
  have h : ∀ z : Int, (absI z).natAbs = z.natAbs := fun z => by unfold absI; split <;> omega
  unfold gcI
  rw [h, h]
theorem ok_law_divisor (F : Fun K "_law_divisor" "_law_divisor" s_law_divisor f fd) (T : Bl mg) : FnOk P w K mg base CX0 1 f fd ["_law_one", "_law_other"] sp_law_divisor := by
  refine okF F sc_law_divisor (fun _ => rfl) fun cdv A outer s H x Q E hr q => ?_
  refine ⟨_, (pss_cons (ps_par (i := 0) (j := 1) (by rfl) sc_law_divisor.nd rfl rfl (by decide) rfl rfl (pa_cons (pe_callB call_abs (by rfl) T.abs (by decide +kernel) (pa_cons (pv 0) pa_nil)) (pa_cons (pe_callB call_abs (by rfl) T.abs (by decide +kernel) (pa_cons (pv 1) pa_nil)) pa_nil)) (by rfl))
  (pss_cons (ps_while PassesOwn.never (pt_cmpR op_gt (pv 1) pe_int (nomark _))
    (pss_one (ps_par (i := 0) (j := 1) (by rfl) sc_law_divisor.nd rfl rfl (by decide) rfl rfl (pa_cons (pv 1) (pa_cons (pe_op op_mod (pe_callTy call_int1 (by rfl) T.int (by decide +kernel) (pa_cons (pv 0) pa_nil)) (pv 1)) pa_nil)) (by rfl))))
  (pss_one (ps_ret (pv 0))))), ?_⟩
  obtain ⟨a, b⟩ := x
  refine ⟨_, rfl, _, rfl, _, rfl, _, rfl, _, _, rfl, ?_⟩
  have ab : ∀ z : Int, 0 ≤ absI z := fun z => by unfold absI; split <;> omega
  refine ⟨fun m σ H' => ∃ (x y : Int), σ = [some (.int x), some (.int y)] ∧ H' = H ∧ 0 ≤ x ∧ 0 ≤ y ∧ gcI x y = gcI a b ∧ m = y.toNat, ⟨_, absI a, absI b, rfl, rfl, ab a, ab b, absI_gc a b, rfl⟩, ?_⟩
  rintro m σ H' ⟨x, y, rfl, rfl, x0, y0, e, rfl⟩
  refine ⟨_, rfl, _, _, rfl, rfl, _, rfl, ite2 (fun c => ?_) (fun c => ?_)⟩
  · have hy : 0 < y := of_decide_eq_true c
    obtain ⟨z1, z2⟩ := mod_range (a := x) hy
    exact ⟨fun σ H2 => ∃ (x2 y2 : Int), σ = [some (.int x2), some (.int y2)] ∧ H2 = H' ∧ 0 ≤ x2 ∧ 0 ≤ y2 ∧ gcI x2 y2 = gcI a b ∧ y2 < y, fun σ' H2 ⟨x2, y2, h1, h2, h3, h4, h5, h6⟩ => ⟨_, by omega, x2, y2, h1, h2, h3, h4, h5, rfl⟩,
      _, rfl, _, rfl, .inl ⟨x, rfl, _, rfl, _, _, rfl, rfl, hy, _, _, rfl, y, x % y, rfl, rfl, y0, z1, (gc_step x0 hy).trans e, z2⟩⟩
  · have hy : y = 0 := by
      have : ¬ 0 < y := fun z => c (decide_eq_true z)
      omega
    subst hy
    refine ⟨_, rfl, ?_⟩
    have q : Q (.int (gcI a b)) H' := q
    rw [← e] at q
    have ex : gcI x 0 = x := by
      unfold gcI
      rw [show Int.natAbs 0 = 0 from rfl, Nat.gcd_zero_right]
      omega
    rw [ex] at q
    exact q

abbrev s_law_divisors : Stmt := topS 67
abbrev N_law_divisors : List Str := ["_law_n", "_law_d"]
theorem sc_law_divisors : FnScope N_law_divisors ["_law_n"] (defScope s_law_divisors) := ⟨rfl, rfl, rfl, by decide +kernel, rfl, by decide +kernel, by decide +kernel⟩
/- [(0, '_law_n'), (1, '_law_d')] cells ['_law_n'] calls [] -/

def dvs (n : Int) (i : Nat) : List Int := ((List.range i).map fun j => (1 : Int) + (j : Nat)).filter fun d => decide (n % d = 0)
theorem dvs_succ (n : Int) (i : Nat) : dvs n (i + 1) = dvs n i ++ (if n % (1 + (i : Int)) = 0 then [1 + (i : Int)] else []) := by
  unfold dvs
  rw [List.range_succ, List.map_append, List.filter_append]
  congr 1
  show List.filter _ [1 + (i : Int)] = _
  by_cases h : n % (1 + (i : Int)) = 0 <;> simp [h]
theorem dvs_len (n : Int) (i : Nat) : (dvs n i).length ≤ i := by
  unfold dvs
  refine Nat.le_trans (List.length_filter_le _ _) ?_
  rw [List.length_map, List.length_range]
  exact Nat.le_refl _
abbrev sp_law_divisors : Sp := SpF (fun x : Int => [.int x]) fun x H Q => 1 ≤ x ∧ x ≤ 500 ∧ ∀ H' p, Same H H' → H p = none → H' p = some (.lst ((dvs x x.toNat).map V.int)) → Q (.ref p) H'
theorem ok_law_divisors (F : Fun K "_law_divisors" "_law_divisors" s_law_divisors f fd) (T : Bl mg) : FnOk P w K mg base CX0 1 f fd ["_law_n"] sp_law_divisors := by
  refine okF F sc_law_divisors (fun _ => rfl) fun cdv A outer s H n Q E hr q => ?_
  refine ⟨_, (pss_one (ps_ret (pe_lc (own := [("_law_d", 1)]) (g := (gName 1)) rfl sc_law_divisors.nd (pi_range2 (by rfl) T.range (pa_cons pe_int (pa_cons (pe_op op_add (pv 0) pe_int) pa_nil))) (blkOk_by (own := [("_law_d", 1)]) (N := N_law_divisors) (sc := defScope s_law_divisors) (by decide +kernel)) (fun _ _ _ _ _ => pg_name (i := 1) sc_law_divisors.nd rfl (Or.inl rfl)) (fun _ _ _ _ _ => pts_one (pt_cmpR op_eq (pe_op op_mod (pe_callTy call_int1 (by rfl) T.int (by decide +kernel) (pa_cons (pv 0) pa_nil)) (pv 1)) pe_int (nomark _))) (fun _ _ _ _ _ => (pv 1))))), ?_⟩
  obtain ⟨n1, n2, q⟩ := q
  refine ⟨_, rfl, _, _, rfl, rfl, 1, n + 1, rfl, ⟨by decide, by decide, by omega, by omega⟩, fun D hD => ?_⟩
  have en : (n + 1 - 1).toNat = n.toNat := by omega
  rw [en]
  refine lc_range (fun i H' => Same H H' ∧ H' D = some (.lst ((dvs n i).map V.int))) ⟨same_upd hD, upd_same⟩ ?_ ?_
  · rintro i H' hi ⟨sm, hd⟩
    refine ⟨rfl, _, rfl, .inl ⟨n, rfl, _, rfl, _, _, rfl, rfl, (by omega : (0 : Int) < 1 + (i : Int)), rfl, _, rfl, ?_⟩⟩
    have sn := dvs_succ n i
    by_cases h : n % (1 + (i : Int)) = 0
    · rw [if_pos h] at sn
      refine iT (vEq h) ⟨_, rfl, _, hd, ?_, fun b o z => ?_, ?_⟩
      · rw [List.length_map]
        have := dvs_len n i
        exact small1000 (by omega)
      · rw [upd_ne (ne_of_none z hD)]
        exact sm b o z
      · rw [upd_same, sn, List.map_append]
        rfl
    · rw [if_neg h, List.append_nil] at sn
      exact iF (vNe h) ⟨sm, by rw [sn]; exact hd⟩
  · rintro H' ⟨sm, hd⟩
    exact q H' D sm hD hd
end
end K24
/-! K24, D10: the drawn products. -/
namespace K24
open PySem PySem.Spec PyProof.Rows L2
/-! ### the divisors of a level -/
def innr (n : Int) : List Int := ((dvs n n.toNat).drop 1).take ((dvs n n.toNat).length - 2)
def dvsOk (n : Int) : Bool := decide ((dvs n n.toNat).length ≤ 8) && decide (1 ≤ (dvs n n.toNat).length) && (if n = 1 then decide (dvs n n.toNat = [1]) else decide (dvs n n.toNat = 1 :: (innr n ++ [n]))) &&
  decide ((dvs n n.toNat).Pairwise (· < ·)) && (dvs n n.toNat).all fun d => decide (1 ≤ d ∧ n % d = 0)
theorem dvs_all : (upto 24).all dvsOk = true := by decide +kernel
theorem dvs_of {n : Int} (h1 : 1 ≤ n) (h2 : n ≤ 24) : (dvs n n.toNat).length ≤ 8 ∧ 1 ≤ (dvs n n.toNat).length ∧ (n = 1 → dvs n n.toNat = [1]) ∧ (n ≠ 1 → dvs n n.toNat = 1 :: (innr n ++ [n])) ∧ (dvs n n.toNat).Pairwise (· < ·) ∧ ∀ d ∈ dvs n n.toNat, 1 ≤ d ∧ n % d = 0 := by
  have h := List.all_eq_true.mp dvs_all n (mem_upto h1 h2)
  unfold dvsOk at h
  rw [Bool.and_eq_true, Bool.and_eq_true, Bool.and_eq_true, Bool.and_eq_true] at h
  obtain ⟨⟨⟨⟨a, b⟩, c⟩, d⟩, e⟩ := h
  refine ⟨of_decide_eq_true a, of_decide_eq_true b, fun z => ?_, fun z => ?_, of_decide_eq_true d, fun x hx => of_decide_eq_true (List.all_eq_true.mp e x hx)⟩
  · rw [if_pos z] at c
    exact of_decide_eq_true c
  · rw [if_neg z] at c
    exact of_decide_eq_true c
theorem cut_inner {D : List Int} (h : 1 ≤ D.length) : cutV (D.map V.int) (some 1) (some (-1)) = ((D.drop 1).take (D.length - 2)).map V.int := by
  unfold cutV
  rw [show HT.sIx (D.map V.int).length 0 (some 1) = min 1 (D.map V.int).length from HT.sIx_nat _ 0 1, List.length_map]
  have e : HT.sIx D.length D.length (some (-1)) = D.length - 1 := by
    show (if (-1 : Int) < 0 then (-1 + (D.length : Int)).toNat else min (-1 : Int).toNat D.length) = _
    rw [if_pos (by decide)]
    omega
  rw [e, Nat.min_eq_left h, ← List.map_drop, ← List.map_take]
  congr 2
theorem getI_out : ∀ {l : Pairs} {d : Int}, d ∉ l.map (·.1) → getI l d = none
  | [], _, _ => rfl
  | q :: r, d, h => by
    rw [List.map_cons, List.mem_cons] at h
    rw [getI_cons, if_neg (fun z => h (.inl z.symm)), getI_out fun z => h (.inr z)]
/-- what is asked of the last two powers -/
structure Cnd (N : Int) (kvs : Pairs) (c : Int × Int) : Prop where
  b1 : -16 ≤ c.1
  b2 : c.1 ≤ 16
  b3 : -16 ≤ c.2
  b4 : c.2 ≤ 16
  near : (stepS kvs + c.1 + N * c.2) % 24 = 0
  far : (S (fun d => N / d) kvs + N * c.1 + c.2) % 24 = 0
  even : (powS kvs + c.1 + c.2) % 2 = 0
theorem good_made {N : Int} {kvs : Pairs} {c : Int × Int} (h1 : 1 ≤ N) (h2 : N ≤ 24) (hN : N ≠ 1) (hk : kvs.map (·.1) = innr N) (hb : ∀ q ∈ kvs, -5 ≤ q.2 ∧ q.2 ≤ 5) (hc : Cnd N kvs c) :
    putI (putI kvs 1 c.1) N c.2 = kvs ++ [(1, c.1), (N, c.2)] ∧ GoodP N (jlist (kvs ++ [(1, c.1), (N, c.2)]) (dvs N N.toNat)) ∧ ∀ y ∈ dvs N N.toNat, ∃ v, getI (kvs ++ [(1, c.1), (N, c.2)]) y = some v := by
  obtain ⟨_, _, _, hD, asc, dv⟩ := dvs_of h1 h2
  have hD := hD hN
  have nd : (dvs N N.toNat).Nodup := asc.imp fun {a b} z => Int.ne_of_lt z
  rw [hD] at nd
  have p1 := List.nodup_cons.mp nd
  have p2 := List.nodup_append.mp p1.2
  have n1 : (1 : Int) ∉ innr N := fun z => p1.1 (List.mem_append_left _ z)
  have nN : N ∉ innr N := fun z => p2.2.2 N z N (by simp) rfl
  have g1 : getI kvs 1 = none := getI_out (by rw [hk]; exact n1)
  have g2 : getI (kvs ++ [(1, c.1)]) N = none := getI_out (by
    rw [List.map_append, hk]
    intro z
    rcases List.mem_append.mp z with z | z
    · exact nN z
    · exact hN (by simpa using z))
  have eput : putI (putI kvs 1 c.1) N c.2 = kvs ++ [(1, c.1), (N, c.2)] := by
    rw [putI_new g1, putI_new g2, List.append_assoc]
    rfl
  have keys : (kvs ++ [(1, c.1), (N, c.2)]).map (·.1) = innr N ++ [1, N] := by rw [List.map_append, hk]; rfl
  have perm : (dvs N N.toNat).Perm (innr N ++ [1, N]) := by
    rw [hD]
    have e : innr N ++ [1, N] = innr N ++ 1 :: [N] := rfl
    rw [e]
    exact List.perm_middle.symm
  have nk : ((kvs ++ [(1, c.1), (N, c.2)]).map (·.1)).Nodup := by
    rw [keys]
    exact perm.nodup_iff.mp (by rw [hD]; exact nd)
  have sums : ∀ f, S f (jlist (kvs ++ [(1, c.1), (N, c.2)]) (dvs N N.toNat)) = S f kvs + (f 1 * c.1 + f N * c.2) := fun f => by
    unfold jlist
    rw [S_drop_zero, S_perm f ((keys ▸ perm : (dvs N N.toNat).Perm ((kvs ++ [(1, c.1), (N, c.2)]).map (·.1))).map fun d => (d, (getI (kvs ++ [(1, c.1), (N, c.2)]) d).getD 0)), kvs_by nk, S_append]
    simp only [S]
    omega
  have vals : ∀ y ∈ dvs N N.toNat, ∃ v, getI (kvs ++ [(1, c.1), (N, c.2)]) y = some v := fun y hy => by
    have := perm.mem_iff.mp hy
    rw [← keys] at this
    obtain ⟨q, hq, e⟩ := List.mem_map.mp this
    exact ⟨q.2, by rw [← e]; exact getI_of_mem nk hq⟩
  have mem : ∀ q ∈ jlist (kvs ++ [(1, c.1), (N, c.2)]) (dvs N N.toNat), q.1 ∈ dvs N N.toNat ∧ q.2 ≠ 0 ∧ -16 ≤ q.2 ∧ q.2 ≤ 16 := fun q hq => by
    obtain ⟨m1, m2⟩ := List.mem_filter.mp hq
    obtain ⟨d, hd, rfl⟩ := List.mem_map.mp m1
    obtain ⟨v, ev⟩ := vals d hd
    refine ⟨hd, by simpa using m2, ?_⟩
    show -16 ≤ (getI (kvs ++ [(1, c.1), (N, c.2)]) d).getD 0 ∧ (getI (kvs ++ [(1, c.1), (N, c.2)]) d).getD 0 ≤ 16
    rw [ev]
    have hv := getI_mem ev
    have b1 := hc.b1
    have b2 := hc.b2
    have b3 := hc.b3
    have b4 := hc.b4
    rcases List.mem_append.mp hv with z | z
    · have := hb _ z
      show -16 ≤ v ∧ v ≤ 16
      have t : -5 ≤ v ∧ v ≤ 5 := this
      omega
    · rcases List.mem_cons.mp z with z | z
      · cases z
        exact ⟨b1, b2⟩
      · rcases List.mem_cons.mp z with z | z
        · cases z
          exact ⟨b3, b4⟩
        · exact nomatch z
  have A : Asc (jlist (kvs ++ [(1, c.1), (N, c.2)]) (dvs N N.toNat)) := by
    show List.Pairwise _ _
    unfold jlist
    refine List.Pairwise.filter _ ?_
    rw [List.pairwise_map]
    exact asc
  have Dd : Dv N (jlist (kvs ++ [(1, c.1), (N, c.2)]) (dvs N N.toNat)) := fun q hq => dv _ (mem q hq).1
  refine ⟨eput, ⟨⟨A, Dd, fun q hq => ?_, len_of h1 h2 A Dd, ?_, ?_, ?_⟩, fun q hq => ?_⟩, vals⟩
  · have := mem q hq
    omega
  · have := hc.even
    show S _ _ % 2 = 0
    rw [sums]
    unfold powS at this
    omega
  · have := hc.near
    show S _ _ % 24 = 0
    rw [sums]
    unfold stepS at this
    show (S (fun d => d) kvs + (1 * c.1 + N * c.2)) % 24 = 0
    generalize N * c.2 = z at *
    omega
  · have := hc.far
    rw [sums]
    show (S (fun d => N / d) kvs + (N / 1 * c.1 + N / N * c.2)) % 24 = 0
    rw [Int.ediv_one, Int.ediv_self (by omega)]
    generalize N * c.1 = z at *
    omega
  · have := mem q hq
    omega
theorem good_one {s : Int} (h : s = 0 ∨ s = 1) : GoodP 1 [(1, 24 * (1 - 2 * s))] := by
  rcases h with rfl | rfl
  · refine ⟨⟨by simp, fun q hq => ?_, fun q hq => ?_, by decide, by decide, by decide, by decide⟩, fun q hq => ?_⟩ <;>
    · obtain rfl : q = _ := by simpa using hq
      decide
  · refine ⟨⟨by simp, fun q hq => ?_, fun q hq => ?_, by decide, by decide, by decide, by decide⟩, fun q hq => ?_⟩ <;>
    · obtain rfl : q = _ := by simpa using hq
      decide
theorem good_nil (N : Int) : GoodP N [] := ⟨⟨List.Pairwise.nil, (fun _ h => nomatch h), (fun _ h => nomatch h), by decide, by decide, by decide, by simp [S]⟩, fun _ h => nomatch h⟩

/-! ### a dict's keys in a comprehension -/
theorem lc_keysW {m : Addr} {kvs : Pairs} {x : Nat} {te : TE} {vs : List Nat} {σ : L2.St} {H : Hp} {Qd : Hp → Prop} {od : Obj} {D : Addr} (f : Int × Int → Int) (hm : DiI H m kvs) (hD : upd H m (.frz od (.dK (toK kvs))) D = none) (hl : kvs.length ≤ 1000)
    (hw : ∀ d, wipe ((wipe σ vs).set x (some d)) vs = wipe σ vs)
    (he : ∀ q ∈ kvs, ∀ H' R, H' m = some (.frz od (.dK (toK kvs))) → R (.int (f q)) H' → te ((wipe σ vs).set x (some (.int q.1))) H' R)
    (hq : ∀ H', H' m = some (.frz od (.dK (toK kvs))) → Same H (upd H' m (.dK (toK kvs))) → upd H' m (.dK (toK kvs)) D = some (.lst ((kvs.map f).map V.int)) → Qd H') :
    ∃ W : Nat → Nat → Hp → Prop, (∃ k, W 0 k (upd (upd H m (.frz od (.dK (toK kvs)))) D (.lst []))) ∧ ∀ i k H, W i k H →
      ((Itk m od (toK kvs)).stop i H ∧ Qd H) ∨ ((Itk m od (toK kvs)).go i H ∧ ∃ Nx : Hp → Prop, (∀ H', Nx H' → ∃ k', k' < k ∧ W (i + 1) k' H') ∧ ∀ v H', (Itk m od (toK kvs)).yld i H v H' → gName x v (wipe σ vs) H' fun σ2 H2 => wipe σ2 vs = wipe σ vs ∧ tYes σ2 H2 fun b H3 =>
        if b = true then te σ2 H3 fun y H4 => ∃ acc, H4 D = some (.lst acc) ∧ acc.length < sizeLine ∧ Nx (upd H4 D (.lst (acc ++ [y]))) else Nx H3) := by
  have ln : (toK kvs).length = kvs.length := by unfold toK; rw [List.length_map]
  have hmD : D ≠ m := fun z => by rw [z, upd_same] at hD; cases hD
  refine ⟨fun i k H' => k = kvs.length - i ∧ i ≤ kvs.length ∧ Same (upd H m (.frz od (.dK (toK kvs)))) H' ∧ H' D = some (.lst (((kvs.take i).map f).map V.int)), ⟨_, rfl, Nat.zero_le _, same_upd hD, upd_same⟩, ?_⟩
  rintro i k H' ⟨rfl, hi, sm, hd⟩
  have hm' : H' m = some (.frz od (.dK (toK kvs))) := sm _ _ upd_same
  by_cases hlt : i < kvs.length
  · refine .inr ⟨⟨hm', by rw [ln]; exact hlt⟩, fun H' => Same (upd H m (.frz od (.dK (toK kvs)))) H' ∧ H' D = some (.lst (((kvs.take (i + 1)).map f).map V.int)), fun H2 ⟨s2, d2⟩ => ⟨kvs.length - (i + 1), by omega, rfl, hlt, s2, d2⟩, fun v H2 y => ?_⟩
    obtain ⟨rfl, ky, vy, e, rfl⟩ := y
    have e2 : (toK kvs)[i]? = some (kvI kvs[i]) := by
      unfold toK
      rw [List.getElem?_map, List.getElem?_eq_getElem hlt]
      rfl
    have e3 := Option.some.inj (e.symm.trans e2)
    have ek : ky = .inl kvs[i].1 := congrArg Prod.fst e3
    subst ek
    refine ⟨hw _, he _ (List.getElem_mem hlt) H2 _ hm' ⟨_, hd, ?_, fun b o z => ?_, ?_⟩⟩
    · rw [List.length_map, List.length_map, List.length_take]
      exact small1000 (by omega)
    · rw [upd_ne (ne_of_none z hD)]
      exact sm b o z
    · rw [upd_same, List.take_add_one, List.getElem?_eq_getElem hlt, List.map_append, List.map_append]
      rfl
  · have e : i = kvs.length := by omega
    subst e
    refine .inl ⟨⟨hm', by rw [ln]; exact Nat.le_refl _⟩, hq _ hm' (fun b o z => ?_) ?_⟩
    · by_cases hb : b = m
      · subst hb
        rw [upd_same]
        rw [show H b = some (.dK (toK kvs)) from hm] at z
        exact z
      · rw [upd_ne hb]
        refine sm b o ?_
        rw [upd_ne hb]
        exact z
    · rw [upd_ne hmD]
      rw [List.take_length] at hd
      exact hd
theorem S_map_sum' (f : Int → Int) (ps : Pairs) : (ps.map fun q => f q.1 * q.2).sum = S f ps := S_map_sum f ps
theorem PrL.of_same_but {H H' : Hp} {a : Addr} {cand : Pairs} (h : PrL H a cand) (ha : H' a = H a) (ht : ∀ p q, H p = some (tp q) → H' p = some (tp q)) : PrL H' a cand := by
  obtain ⟨as, h1, h2⟩ := h
  exact ⟨as, ha.trans h1, Paired.mapP h2 fun p q z => ht p q z⟩
theorem dp_prs {K : PySem.W.Frag} {H : Hp} : ∀ {as : List Addr} {ps : Pairs}, Prs H as ps → DpAll K H (as.map V.ref) (ps.map fun q => .tuple [.int q.1, .int q.2])
  | _, _, .nil => .nil
  | _, _, .cons h t => .cons (.tup (SqT.of h) (.cons (.int _) (.cons (.int _) .nil))) (dp_prs t)
theorem shaped_prs (ps : Pairs) : SeqAt.shaped (.list (ps.map fun q => .tuple [.int q.1, .int q.2])) = true := by
  have h : ∀ ps : Pairs, PyData.canLayAll0 (ps.map fun q => .tuple [.int q.1, .int q.2]) = true ∧ PyData.depthAll (ps.map fun q => .tuple [.int q.1, .int q.2]) ≤ 1 := by
    intro ps
    induction ps with
    | nil => exact ⟨by simp [PyData.canLayAll0], by simp [PyData.depthAll]⟩
    | cons x r ih =>
      refine ⟨?_, ?_⟩
      · rw [List.map_cons, PyData.canLayAll0, ih.1]
        simp [PyData.canLay0, PyData.canLayAll0]
      · rw [List.map_cons, PyData.depthAll]
        have := ih.2
        simp only [PyData.depth, PyData.depthAll]
        omega
  unfold SeqAt.shaped
  rw [PyData.canLay0, PyData.depth, (h ps).1]
  have := (h ps).2
  simp
  omega
theorem eqv_nil' (ps : Pairs) : PyData.eqv (.list (ps.map fun q => .tuple [.int q.1, .int q.2])) (.list []) = ps.isEmpty := by
  cases ps with
  | nil => rw [List.map_nil, PyData.eqv, PyData.eqvAll]; rfl
  | cons x r => rw [List.map_cons, PyData.eqv, PyData.eqvAll]; rfl
end K24
/-! K24, D11: the walk of the drawn products. -/
namespace K24
open PySem PySem.Spec PyProof.Rows L2
/-- between the steps of _law_whole -/
structure Wh (dk l : Addr) (N : Int) (dv m : Addr) (kvs : Pairs) (H0 H' : Hp) : Prop where
  btw : Btw dk l H0 H'
  deck : DeckOk H' dk l
  hdv : H' dv = some (.lst ((dvs N N.toNat).map V.int))
  hm : DiI H' m kvs
theorem Wh.same {dk l : Addr} {N : Int} {dv m : Addr} {kvs : Pairs} {H0 H' H'' : Hp} (w : Wh dk l N dv m kvs H0 H') (s : Same H' H'') : Wh dk l N dv m kvs H0 H'' :=
  ⟨w.btw.trans (Btw.of s), w.deck.same s, s _ _ w.hdv, s _ _ w.hm⟩
theorem Wh.drawn {dk l : Addr} {N : Int} {dv m : Addr} {kvs : Pairs} {H0 H' H'' : Hp} (n1 : dv ≠ dk) (n2 : dv ≠ l) (n3 : m ≠ dk) (n4 : m ≠ l) (w : Wh dk l N dv m kvs H0 H') (b : Btw dk l H' H'') (d : DeckOk H'' dk l) : Wh dk l N dv m kvs H0 H'' :=
  ⟨w.btw.trans b, d, b _ _ w.hdv n1 n2, b _ _ w.hm n3 n4⟩
theorem Wh.put {dk l : Addr} {N : Int} {dv m : Addr} {kvs kvs2 : Pairs} {H0 H' : Hp} (n3 : m ≠ dk) (n4 : m ≠ l) (nm : H0 m = none) (w : Wh dk l N dv m kvs H0 H') : Wh dk l N dv m kvs2 H0 (upd H' m (.dK (toK kvs2))) := by
  obtain ⟨a, ⟨cs, mx, dr, d1, d2, d3⟩, c, d⟩ := w
  refine ⟨fun b o z x y => ?_, ⟨cs, mx, dr, by rw [upd_ne n3.symm]; exact d1, by rw [upd_ne n4.symm]; exact d2, d3⟩, ?_, upd_same⟩
  · rw [upd_ne (ne_of_none z nm)]
    exact a b o z x y
  · rw [upd_ne (ne_of c d (by intro z; cases z))]
    exact c
theorem Wh.side {dk l sm : Addr} {N : Int} {dv m : Addr} {kvs : Pairs} {H0 H' : Hp} {o : HO} (h0 : H0 sm = none) (h1 : sm ≠ dk) (h2 : sm ≠ l) (h3 : dv ≠ sm) (h4 : m ≠ sm) (w : Wh dk l N dv m kvs H0 H') : Wh dk l N dv m kvs H0 (upd H' sm o) := by
  obtain ⟨a, ⟨cs, mx, dr, d1, d2, d3⟩, c, d⟩ := w
  refine ⟨fun b o z x y => ?_, ⟨cs, mx, dr, by rw [upd_ne h1.symm]; exact d1, by rw [upd_ne h2.symm]; exact d2, d3⟩, by rw [upd_ne h3]; exact c, ?_⟩
  · rw [upd_ne (ne_of_none z h0)]
    exact a b o z x y
  · show upd H' sm _ m = _
    rw [upd_ne h4]
    exact d
theorem Paired.mem {α β : Type} {R : α → β → Prop} {x : α} : ∀ {l : List α} {m : List β}, Paired R l m → x ∈ l → ∃ y ∈ m, R x y
  | _, _, .nil, h => nomatch h
  | _, _, .cons r t, h => by
    rcases List.mem_cons.mp h with e | e
    · subst e
      exact ⟨_, List.mem_cons_self, r⟩
    · obtain ⟨y, hy, q⟩ := Paired.mem t e
      exact ⟨y, List.mem_cons_of_mem _ hy, q⟩
theorem pick_small {v : V} (h : v ∈ [V.int 0, V.int 0, V.int 1, V.int (-1), V.int 2, V.int (-2), V.int 3, V.int 0, V.int (-4), V.int 5]) : ∃ r, v = .int r ∧ -5 ≤ r ∧ r ≤ 5 := by
  simp only [List.mem_cons, List.not_mem_nil, or_false] at h
  rcases h with rfl | rfl | rfl | rfl | rfl | rfl | rfl | rfl | rfl | rfl <;> exact ⟨_, rfl, by decide, by decide⟩
section
variable {P : Program} {w : World} {K : PySem.W.Frag} {mg : Str → Option Value} {base : Heap} {f : Addr} {fd : FuncData}

abbrev s_law_whole : Stmt := topS 68
abbrev N_law_whole : List Str := ["_law_deck_here", "_law_level_here", "_law_low", "_law_high", "_law_divisors_here", "_law_r", "_law_d", "_law_total", "_law_near", "_law_far", "_law_some", "_law_one", "_law_last", "_law_other", "_law_weight"]
theorem sc_law_whole : FnScope N_law_whole ["_law_deck_here", "_law_level_here", "_law_low", "_law_high"] (defScope s_law_whole) := ⟨rfl, rfl, rfl, by decide +kernel, rfl, by decide +kernel, by decide +kernel⟩
/- [(0, '_law_deck_here'), (1, '_law_level_here'), (2, '_law_low'), (3, '_law_high'), (4, '_law_divisors_here'), (5, '_law_r'), (6, '_law_d'), (7, '_law_total'), (8, '_law_near'), (9, '_law_far'), (10, '_law_some'), (11, '_law_one'), (12, '_law_last'), (13, '_law_other'), (14, '_law_weight')] cells ['_law_level_here', '_law_near', '_law_one', '_law_r'] calls ['_law_divisors', '_law_draw', '_law_pick'] -/

abbrev enW (x : (Addr × Addr) × Int) : List V := [.ref x.1.1, .int x.2, .int (-6), .int 6]
abbrev sp_law_whole : Sp := SpF enW fun x H Q => DeckOk H x.1.1 x.1.2 ∧ 1 ≤ x.2 ∧ x.2 ≤ 24 ∧ ∀ H' p ps, Btw x.1.1 x.1.2 H H' → DeckOk H' x.1.1 x.1.2 → GoodP x.2 ps → PrD H' p ps → Q (.ref p) H'
theorem ok_law_whole (F : Fun K "_law_whole" "_law_whole" s_law_whole f fd) (T : Bl mg) (h_law_divisors : Has P w K mg base 1 "_law_divisors" ["_law_n"] sp_law_divisors) (h_law_draw : Has P w K mg base 1 "_law_draw" ["_law_deck_here", "_law_many"] sp_law_draw)
    (h_law_pick : Has P w K mg base 2 "_law_pick" ["_law_deck_here", "_law_some"] sp_law_pick) : FnOk P w K mg base CX0 3 f fd ["_law_deck_here", "_law_level_here", "_law_low", "_law_high"] sp_law_whole := by
  refine okF F sc_law_whole (fun _ => rfl) fun cdv A outer s H x Q E hr q => ?_
  refine ⟨_, (pss_cons (ps_asg (pe_tup (pa_cons (pe_fn h_law_divisors (hr.mono (by decide)) (by rfl) (pa_cons (pv 1) pa_nil)) (pa_cons pe_dnewK pa_nil))) (pg_tup rfl (pgs_cons (pg_name (i := 4) sc_law_whole.nd rfl (.inl rfl)) (pgs_cons (pg_name (i := 5) sc_law_whole.nd rfl (.inr rfl)) pgs_nil))))
  (pss_cons (ps_for PassesOwn.never rfl (pi_list (pe_slice sl_list (pv 4) (po_some pe_int) (po_some (pe_un un_neg pe_int)))) (pg_name (i := 6) sc_law_whole.nd rfl (.inl rfl))
    (pss_one (ps_dput (hu_of hr) (pv 5) (pv 6) (pe_fn h_law_pick (hr.mono (by decide)) (by rfl) (pa_cons (pv 0) (pa_cons (pe_tup (pa_cons pe_int (pa_cons pe_int (pa_cons pe_int (pa_cons (pe_un un_neg pe_int) (pa_cons pe_int (pa_cons (pe_un un_neg pe_int) (pa_cons pe_int (pa_cons pe_int (pa_cons (pe_un un_neg pe_int) (pa_cons pe_int pa_nil))))))))))) pa_nil))) rfl)))
  (pss_cons (ps_asg (pe_tup (pa_cons (pe_callB (cr_sum rfl) (by rfl) T.sum (by decide +kernel) (pa_cons (pe_lock (pe_lc (own := [("_law_d", 6)]) (g := (gName 6)) rfl sc_law_whole.nd (pi_keys (pv 5)) (blkOk_by (own := [("_law_d", 6)]) (N := N_law_whole) (sc := defScope s_law_whole) (by decide +kernel)) (fun _ _ _ _ _ => pg_name (i := 6) sc_law_whole.nd rfl (Or.inl rfl)) (fun _ _ _ _ _ => pts_nil) (fun _ _ _ _ _ => (pe_dget (hu_of hr) (pv 5) (pv 6) (fun _ _ => rfl))))) pa_nil)) (pa_cons (pe_callB (cr_sum rfl) (by rfl) T.sum (by decide +kernel) (pa_cons (pe_lock (pe_lc (own := [("_law_d", 6)]) (g := (gName 6)) rfl sc_law_whole.nd (pi_keys (pv 5)) (blkOk_by (own := [("_law_d", 6)]) (N := N_law_whole) (sc := defScope s_law_whole) (by decide +kernel)) (fun _ _ _ _ _ => pg_name (i := 6) sc_law_whole.nd rfl (Or.inl rfl)) (fun _ _ _ _ _ => pts_nil) (fun _ _ _ _ _ => (pe_op op_mulW (pv 6) (pe_dget (hu_of hr) (pv 5) (pv 6) (fun _ _ => rfl)))))) pa_nil)) pa_nil))) (pg_tup rfl (pgs_cons (pg_name (i := 7) sc_law_whole.nd rfl (.inl rfl)) (pgs_cons (pg_name (i := 8) sc_law_whole.nd rfl (.inr rfl)) pgs_nil))))
  (pss_cons (ps_par (i := 9) (j := 10) (by rfl) sc_law_whole.nd rfl rfl (by decide) rfl rfl (pa_cons (pe_callB (cr_sum rfl) (by rfl) T.sum (by decide +kernel) (pa_cons (pe_lock (pe_lc (own := [("_law_d", 6)]) (g := (gName 6)) rfl sc_law_whole.nd (pi_keys (pv 5)) (blkOk_by (own := [("_law_d", 6)]) (N := N_law_whole) (sc := defScope s_law_whole) (by decide +kernel)) (fun _ _ _ _ _ => pg_name (i := 6) sc_law_whole.nd rfl (Or.inl rfl)) (fun _ _ _ _ _ => pts_nil) (fun _ _ _ _ _ => (pe_op op_mulW (pe_op op_fdivW (pv 1) (pv 6)) (pe_dget (hu_of hr) (pv 5) (pv 6) (fun _ _ => rfl)))))) pa_nil)) (pa_cons (pe_lst pa_nil) pa_nil)) (by rfl))
  (pss_cons (ps_for PassesOwn.never rfl (pi_range2 (by rfl) T.range (pa_cons (pe_un un_neg pe_int) (pa_cons pe_int pa_nil))) (pg_name (i := 11) sc_law_whole.nd rfl (.inr rfl))
    (pss_cons (ps_setLc (i := 12) (own := [("_law_other", 13)]) (g := (gName 13)) rfl sc_law_whole.nd rfl rfl (sw_true rfl rfl rfl (by decide +kernel)) (pi_range2 (by rfl) T.range (pa_cons (pe_un un_neg pe_int) (pa_cons pe_int pa_nil))) (blkOk_by (own := [("_law_other", 13)]) (N := N_law_whole) (sc := defScope s_law_whole) (by decide +kernel)) (fun _ _ _ _ _ => pg_name (i := 13) sc_law_whole.nd rfl (Or.inl rfl)) (fun _ _ _ _ _ => pts_one (pt_cmpR op_eq (pe_op op_mod (pe_callTy call_int1 (by rfl) T.int (by decide +kernel) (pa_cons (pe_op op_add (pe_op op_add (pv 8) (pv 11)) (pe_op op_mulW (pv 1) (pv 13))) pa_nil)) pe_int) pe_int (nomark _))) (fun _ _ _ _ _ => (pv 13)))
  (pss_one (ps_for PassesOwn.never rfl (pi_list (pv 12)) (pg_name (i := 13) sc_law_whole.nd rfl (.inl rfl))
    (pss_cons (ps_set (i := 14) sc_law_whole.nd rfl (.inl rfl) (pe_op op_add (pe_op op_add (pv 7) (pv 11)) (pv 13)))
  (pss_one (ps_if (PW.pt (pw_and (pt_cmpR op_eq (pe_op op_mod (pe_callTy call_int1 (by rfl) T.int (by decide +kernel) (pa_cons (pe_op op_add (pe_op op_add (pv 9) (pe_op op_mulW (pv 1) (pv 11))) (pv 13)) pa_nil)) pe_int) pe_int (nomark _)) (pw_and (pt_cmpR op_eq (pe_op op_mod (pe_callTy call_int1 (by rfl) T.int (by decide +kernel) (pa_cons (pv 14) pa_nil)) pe_int) pe_int (nomark _)) (pw_and1 (pt_chain op_le op_le (pv 2) (pe_op op_fdivW (pv 14) pe_int) (pv 3))))))
    (pss_one (ps_expr (pe_bm PySem.F.plainAttrs_list PySem.F.slot_list_append PySem.F.type_list_append mt_append (pv 10) (pa_cons (pe_tup (pa_cons (pv 11) (pa_cons (pv 13) pa_nil))) pa_nil))))
    pss_nil)))))))
  (pss_cons (ps_if (PW.pt (pw_or (pt_cmpR op_eq (pv 1) pe_int (nomark _)) (pw_or1 (pt_cmpR (op_eqD hr.units) (pv 10) (pe_lst pa_nil) (nomark _)))))
    (pss_one (ps_ret (pe_ifExp (pt_cmpR op_eq (pv 1) pe_int (nomark _)) (pe_tupF (pa_cons (pe_tup (pa_cons pe_int (pa_cons (pe_op op_mulW pe_int (pe_op op_sub pe_int (pe_op op_mulW pe_int (pe_fn h_law_draw (hr.mono (by decide)) (by rfl) (pa_cons (pv 0) (pa_cons pe_int pa_nil)))))) pa_nil))) pa_nil)) (pe_tupF pa_nil))))
    pss_nil)
  (pss_cons (ps_asg (pe_fn h_law_pick (hr.mono (by decide)) (by rfl) (pa_cons (pv 0) (pa_cons (pv 10) pa_nil))) (pg_tup rfl (pgs_cons (pg_sub (pv 5) pe_int (set_dict (hu_of hr))) (pgs_cons (pg_sub (pv 5) (pv 1) (set_dict (hu_of hr))) pgs_nil))))
  (pss_one (ps_ret (pe_callTy call_tupleF (by rfl) T.tuple (by decide +kernel) (pa_cons (pe_lc (own := [("_law_d", 6)]) (g := (gName 6)) rfl sc_law_whole.nd (pi_list (pv 4)) (blkOk_by (own := [("_law_d", 6)]) (N := N_law_whole) (sc := defScope s_law_whole) (by decide +kernel)) (fun _ _ _ _ _ => pg_name (i := 6) sc_law_whole.nd rfl (Or.inl rfl)) (fun _ _ _ _ _ => pts_one (pt_cmpR op_ne (pe_dget (hu_of hr) (pv 5) (pv 6) (fun _ _ => rfl)) pe_int (nomark _))) (fun _ _ _ _ _ => (pe_tup (pa_cons (pv 6) (pa_cons (pe_dget (hu_of hr) (pv 5) (pv 6) (fun _ _ => rfl)) pa_nil))))) pa_nil))))))))))), ?_⟩
  obtain ⟨⟨dk, l⟩, N⟩ := x
  obtain ⟨hD, n1, n2, qQ⟩ := q
  have hD : DeckOk H dk l := hD
  have n1 : 1 ≤ N := n1
  have n2 : N ≤ 24 := n2
  obtain ⟨t1, t2, tone, tmore, tasc, tdv⟩ := dvs_of n1 n2
  -- divisors, r = .., {}
  refine ⟨_, rfl, N, rfl, n1, (show N ≤ 500 by omega), fun H1 dv s1 ndv hdv m nm => ⟨by show 2 ≤ sizeLine; decide, fun t nt => ⟨t, _, rfl, SqT.of upd_same, rfl, _, _, rfl, _, _, rfl, rfl, ?_⟩⟩⟩
  have s12 := same_upd (o := .dK []) nm
  have s13 := s12.trans (same_upd (o := .tup [.ref dv, .ref m]) nt)
  have w0 : Wh dk l N dv m [] H (upd (upd H1 m (.dK [])) t (.tup [.ref dv, .ref m])) := ⟨Btw.of (s1.trans s13), hD.same (s1.trans s13), s13 _ _ hdv, same_upd nt _ _ upd_same⟩
  have there : ∀ c, H c = none → c ≠ dk ∧ c ≠ l := fun c hc => by
    obtain ⟨cs, mx, dr, a, b, _⟩ := hD
    exact ⟨(ne_of_none a hc).symm, (ne_of_none b hc).symm⟩
  have nmH : H m = none := Same.free s1 nm
  obtain ⟨ne1, ne2⟩ := there dv ndv
  obtain ⟨ne3, ne4⟩ := there m nmH
  generalize upd (upd H1 m (.dK [])) t (.tup [.ref dv, .ref m]) = H3 at *
  -- for d in divisors[1:-1]: r[d] = pick(..)
  have ci : cutV ((dvs N N.toNat).map V.int) (some 1) (some (-1)) = (innr N).map V.int := cut_inner t2
  refine ⟨_, rfl, 1, rfl, 1, rfl, -1, rfl, dv, _, rfl, SqL.of w0.hdv, fun p np => ?_⟩
  rw [ci]
  have inD : ∀ d ∈ innr N, d ∈ dvs N N.toNat := fun d hd => List.mem_of_mem_drop (List.mem_of_mem_take hd)
  have innd : (innr N).Nodup := by
    have : (dvs N N.toNat).Nodup := tasc.imp fun {a b} z => Int.ne_of_lt z
    exact ((this.sublist (List.drop_sublist 1 _)).sublist (List.take_sublist _ _))
  have inlen : (innr N).length ≤ 8 := by
    unfold innr
    rw [List.length_take, List.length_drop]
    omega
  have npH : p ≠ dk ∧ p ≠ l := by
    obtain ⟨cs, mx, dr, a, b, _⟩ := w0.deck
    exact ⟨(ne_of_none a np).symm, (ne_of_none b np).symm⟩
  have npm : p ≠ m := (ne_of_none w0.hm np).symm
  refine ⟨p, rfl, ⟨_, SqL.of upd_same⟩, for_list (xs := (innr N).map V.int) (fun i σ H' => ∃ (o6 : Option V) (kvs : Pairs), σ = [some (.ref dk), some (.int N), some (.int (-6)), some (.int 6), some (.ref dv), some (.ref m), o6, none, none, none, none, none, none, none, none] ∧ Wh dk l N dv m kvs H H' ∧
      H' p = some (.lst ((innr N).map V.int)) ∧ kvs.map (·.1) = (innr N).take i ∧ ∀ q ∈ kvs, -5 ≤ q.2 ∧ q.2 ≤ 5) ⟨_, [], rfl, w0.same (same_upd np), upd_same, rfl, fun _ h => nomatch h⟩ ?_ ?_ ?_⟩
  · rintro i σ H' _ ⟨_, _, _, _, h, _⟩
    exact SqL.of h
  · rintro i v σ H' hv ⟨o6, kvs, rfl, wh, hp, hk, hb⟩
    rw [List.getElem?_map] at hv
    obtain ⟨d, hd, rfl⟩ := Option.map_eq_some_iff.mp hv
    have klen : kvs.length ≤ 8 := by
      have := congrArg List.length hk
      rw [List.length_map, List.length_take] at this
      omega
    refine ⟨_, rfl, 1, rfl, 2, rfl, 4, rfl, by show 10 ≤ sizeLine; decide, fun c nc => ?_⟩
    have scc := same_upd (o := .tup [V.int 0, V.int 0, V.int 1, V.int (-1), V.int 2, V.int (-2), V.int 3, V.int 0, V.int (-4), V.int 5]) nc
    have wc := wh.same scc
    have nel : c ≠ l := by
      obtain ⟨cs, mx, dr, a, b, _⟩ := wh.deck
      exact (ne_of_none b nc).symm
    refine ⟨((dk, l), (c, [V.int 0, V.int 0, V.int 1, V.int (-1), V.int 2, V.int (-2), V.int 3, V.int 0, V.int (-4), V.int 5])), rfl, wc.deck, .inr upd_same, nel, (by simp), (show 10 ≤ 10000 by decide), fun H4 v bt D4 hv => ?_⟩
    obtain ⟨r, rfl, r1, r2⟩ := pick_small hv
    have w4 := wc.drawn ne1 ne2 ne3 ne4 bt D4
    have hp4 := bt _ _ (scc _ _ hp) npH.1 npH.2
    refine ⟨_, rfl, _, rfl, m, _, rfl, DiI.put w4.hm d r (by omega), ?_⟩
    have out : d ∉ kvs.map (·.1) := by
      rw [hk]
      intro z
      have e1 := drop_at hd
      have e2 := List.take_append_drop i (innr N)
      rw [e1] at e2
      rw [← e2] at innd
      exact (List.nodup_append.mp innd).2.2 d z d List.mem_cons_self rfl
    rw [putI_new (getI_out out)]
    refine ⟨some (.int d), kvs ++ [(d, r)], rfl, w4.put ne3 ne4 nmH, ?_, ?_, fun q hq => ?_⟩
    · rw [upd_ne npm]
      exact hp4
    · rw [List.map_append, hk, List.take_add_one, hd]
      rfl
    · rcases List.mem_append.mp hq with z | z
      · exact hb q z
      · obtain rfl : q = (d, r) := by simpa using z
        exact ⟨r1, r2⟩
  · rintro σ H' ⟨o6, kvs, rfl, wh, _, hk, hb⟩
    rw [List.length_map, List.take_length] at hk
    have klen : kvs.length ≤ 8 := by
      have := congrArg List.length hk
      rw [List.length_map] at this
      omega
    have knd : (kvs.map (·.1)).Nodup := by rw [hk]; exact innd
    have kget : ∀ q ∈ kvs, getI kvs q.1 = some q.2 := fun q hq => getI_of_mem knd hq
    have kb : ∀ q ∈ kvs, 1 ≤ q.1 ∧ q.1 ≤ 24 := fun q hq => by
      have h1 : q.1 ∈ innr N := by rw [← hk]; exact List.mem_map.mpr ⟨q, hq, rfl⟩
      have := tdv _ (inD _ h1)
      have h2 := Int.le_of_dvd (by omega) (Int.dvd_of_emod_eq_zero this.2)
      omega
    have look : ∀ {od : Obj} {H' : Hp} (q : Int × Int), q ∈ kvs → H' m = some (.frz od (.dK (toK kvs))) → DGet H' m (.int q.1) (some (.int q.2)) := fun q hq h => by
      have g := DiI.getF h q.1
      rw [kget q hq] at g
      exact g
    -- total, near
    refine ⟨m, _, wh.hm, True.intro, fun od => ⟨_, rfl, m, od, rfl, .inl ⟨_, upd_same, fun D hD => lc_keysW (fun q => q.2) wh.hm hD (by omega) (fun _ => rfl) (fun q hq H2 R h2 r => ⟨_, rfl, _, rfl, m, _, rfl, look q hq h2, r⟩) fun H6 e6 s6 h6 => ⟨e6, D, _, rfl, SqL.of h6, ?_⟩⟩⟩⟩
    have w6 := wh.same s6
    generalize upd H6 m (.dK (toK kvs)) = H7 at *
    refine ⟨m, _, w6.hm, True.intro, fun od => ⟨_, rfl, m, od, rfl, .inl ⟨_, upd_same, fun D2 hD2 => lc_keysW (fun q => q.1 * q.2) w6.hm hD2 (by omega) (fun _ => rfl) (fun q hq H2 R h2 r => ?_) fun H8 e8 s8 h8 => ⟨e8, D2, _, rfl, SqL.of h8, ?_⟩⟩⟩⟩
    · have b1 := kb q hq
      have b2 := hb q hq
      exact ⟨_, rfl, _, rfl, _, rfl, m, _, rfl, look q hq h2, _, _, rfl, rfl, mul_ok (by omega) (by omega) (by omega) (by omega), r⟩
    have w8 := w6.same s8
    generalize upd H8 m (.dK (toK kvs)) = H9 at *
    have etot : (kvs.map fun q => q.2).sum = powS kvs := by
      have := S_map_sum (fun _ => 1) kvs
      simpa using this
    have enear : (kvs.map fun q => q.1 * q.2).sum = stepS kvs := S_map_sum (fun d => d) kvs
    rw [etot, enear]
    refine ⟨by show 2 ≤ sizeLine; decide, fun t2 nt2 => ⟨t2, _, rfl, SqT.of upd_same, rfl, _, _, rfl, _, _, rfl, rfl, ?_⟩⟩
    have w9 := w8.same (same_upd (o := .tup [.int (powS kvs), .int (stepS kvs)]) nt2)
    generalize upd H9 t2 (.tup [.int (powS kvs), .int (stepS kvs)]) = H10 at *
    -- far, some
    refine ⟨m, _, w9.hm, True.intro, fun od => ⟨_, rfl, m, od, rfl, .inl ⟨_, upd_same, fun D3 hD3 => lc_keysW (fun q => N / q.1 * q.2) w9.hm hD3 (by omega) (fun _ => rfl) (fun q hq H2 R h2 r => ?_) fun H11 e11 s11 h11 => ⟨e11, D3, _, rfl, SqL.of h11, ?_⟩⟩⟩⟩
    · have b1 := kb q hq
      have b2 := hb q hq
      obtain ⟨z1, z2⟩ := div_small (n := N) (q := q.1) (B := 24) b1.1 (by decide) (by omega) (by omega)
      exact ⟨_, rfl, _, rfl, _, _, rfl, rfl, div_ok (by omega) (by omega), _, rfl, _, rfl, m, _, rfl, look q hq h2, _, _, rfl, rfl, (show CMulW (N / q.1) q.2 from mul_ok (by omega) (by omega) (by omega) (by omega)), r⟩
    have w11 := w9.same s11
    generalize upd H11 m (.dK (toK kvs)) = H12 at *
    have efar : (kvs.map fun q => N / q.1 * q.2).sum = S (fun d => N / d) kvs := S_map_sum (fun d => N / d) kvs
    rw [efar]
    refine ⟨Nat.zero_le _, fun sm nsm => ⟨_, _, rfl, ?_⟩⟩
    have w12 := w11.same (same_upd (o := .lst []) nsm)
    have hsm : upd H12 sm (.lst []) sm = some (.lst []) := upd_same
    have smne : sm ≠ dk ∧ sm ≠ l := by
      obtain ⟨cs, mx, dr, a, b, _⟩ := w11.deck
      exact ⟨(ne_of_none a nsm).symm, (ne_of_none b nsm).symm⟩
    have smdv : dv ≠ sm := ne_of_none w11.hdv nsm
    have smm : m ≠ sm := ne_of_none w11.hm nsm
    have smH : H sm = none := by
      cases z : H sm with
      | none => rfl
      | some o =>
        have := w11.btw _ _ z smne.1 smne.2
        rw [nsm] at this
        cases this
    generalize upd H12 sm (.lst []) = H13 at *
    -- the candidates for the last two powers
    refine ⟨16, rfl, -16, 17, rfl, ⟨by decide, by decide, by decide, by decide⟩, for_range (lo := -16) (n := 33) (fun i σ H' => ∃ (o11 o12 o13 o14 : Option V) (cand : Pairs), σ = [some (.ref dk), some (.int N), some (.int (-6)), some (.int 6), some (.ref dv), some (.ref m), o6, some (.int (powS kvs)), some (.int (stepS kvs)), some (.int (S (fun d => N / d) kvs)), some (.ref sm), o11, o12, o13, o14] ∧
      Wh dk l N dv m kvs H H' ∧ PrL H' sm cand ∧ (∀ c ∈ cand, Cnd N kvs c) ∧ cand.length ≤ 33 * i) ⟨_, _, _, _, [], rfl, w12, ⟨[], hsm, .nil⟩, (fun _ h => nomatch h), Nat.zero_le _⟩ ?_ ?_⟩
    · rintro i σ Ha hi ⟨o11, o12, o13, o14, cand, rfl, wa, pa, ca, la⟩
      -- last
      refine ⟨16, rfl, -16, 17, rfl, ⟨by decide, by decide, by decide, by decide⟩, fun D hD => lc_range (lo := -16) (n := 33) (fun j Hb => Same Ha Hb ∧ ∃ ls : List Int, Hb D = some (.lst (ls.map V.int)) ∧ ls.length ≤ j ∧ ∀ o ∈ ls, -16 ≤ o ∧ o ≤ 16 ∧ (stepS kvs + (-16 + (i : Int)) + N * o) % 24 = 0) ⟨same_upd hD, [], upd_same, Nat.zero_le _, fun _ h => nomatch h⟩ ?_ ?_⟩
      · rintro j Hb hj ⟨sb, ls, hb, lb, ab⟩
        refine ⟨rfl, _, rfl, _, rfl, _, _, rfl, rfl, _, rfl, _, rfl, _, _, rfl, rfl, mul_ok (by omega) (by omega) (by omega) (by omega), _, _, rfl, rfl, .inl ⟨_, rfl, _, _, rfl, rfl, (by decide : (0 : Int) < 24), rfl, _, rfl, ite2 (fun c => ?_) (fun c => ?_)⟩⟩
        · refine ⟨_, rfl, _, hb, by rw [List.length_map]; exact small1000 (by omega), fun b o z => ?_, ls ++ [-16 + (j : Int)], ?_, ?_, fun o ho => ?_⟩
          · rw [upd_ne (ne_of_none z hD)]
            exact sb b o z
          · rw [upd_same, List.map_append]
            rfl
          · rw [List.length_append, List.length_singleton]
            omega
          · rcases List.mem_append.mp ho with z | z
            · exact ab o z
            · obtain rfl : o = -16 + (j : Int) := by simpa using z
              exact ⟨by omega, by omega, intEq c⟩
        · exact ⟨sb, ls, hb, by omega, ab⟩
      · rintro Hb ⟨sb, ls, hb, lb, ab⟩
        have wb := wa.same sb
        have pb := pa.same sb
        have neD : D ≠ sm := by
          obtain ⟨as, h, _⟩ := pa
          exact (ne_of_none h hD).symm
        -- for other in last
        refine ⟨_, rfl, D, rfl, ⟨_, SqL.of hb⟩, for_list (xs := ls.map V.int) (fun j σ Hc => ∃ (o13 o14 : Option V) (cand : Pairs), σ = [some (.ref dk), some (.int N), some (.int (-6)), some (.int 6), some (.ref dv), some (.ref m), o6, some (.int (powS kvs)), some (.int (stepS kvs)), some (.int (S (fun d => N / d) kvs)), some (.ref sm), some (.int (-16 + (i : Int))), some (.ref D), o13, o14] ∧
          Wh dk l N dv m kvs H Hc ∧ PrL Hc sm cand ∧ (∀ c ∈ cand, Cnd N kvs c) ∧ cand.length ≤ 33 * i + j ∧ Hc D = some (.lst (ls.map V.int))) ⟨o13, o14, cand, rfl, wb, pb, ca, la, hb⟩ ?_ ?_ ?_⟩
        · rintro j σ Hc _ ⟨_, _, _, _, _, _, _, _, h⟩
          exact SqL.of h
        · rintro j v σ Hc hv ⟨o13, o14, cand, rfl, wc, pc, cc, lc, hc⟩
          rw [List.getElem?_map] at hv
          obtain ⟨o, ho, rfl⟩ := Option.map_eq_some_iff.mp hv
          obtain ⟨q1, q2, q3⟩ := ab o (mem_at ho)
          have jlt : j < 33 := Nat.lt_of_lt_of_le (List.getElem?_eq_some_iff.mp ho).1 lb
          have stay : ∃ (o13 o14 : Option V) (cand : Pairs), [some (.ref dk), some (.int N), some (.int (-6)), some (.int 6), some (.ref dv), some (.ref m), o6, some (.int (powS kvs)), some (.int (stepS kvs)), some (.int (S (fun d => N / d) kvs)), some (.ref sm), some (.int (-16 + (i : Int))), some (.ref D), some (.int o), some (.int (powS kvs + (-16 + (i : Int)) + o))] =
              [some (.ref dk), some (.int N), some (.int (-6)), some (.int 6), some (.ref dv), some (.ref m), o6, some (.int (powS kvs)), some (.int (stepS kvs)), some (.int (S (fun d => N / d) kvs)), some (.ref sm), some (.int (-16 + (i : Int))), some (.ref D), o13, o14] ∧
              Wh dk l N dv m kvs H Hc ∧ PrL Hc sm cand ∧ (∀ c ∈ cand, Cnd N kvs c) ∧ cand.length ≤ 33 * i + (j + 1) ∧ Hc D = some (.lst (ls.map V.int)) := ⟨_, _, cand, rfl, wc, pc, cc, by omega, hc⟩
          refine ⟨_, rfl, _, rfl, _, _, rfl, rfl, _, rfl, _, _, rfl, rfl, ?_⟩
          refine ⟨_, rfl, _, rfl, _, rfl, _, _, rfl, rfl, mul_ok (by omega) (by omega) (by omega) (by omega), _, _, rfl, rfl, _, rfl, _, _, rfl, rfl, .inl ⟨_, rfl, _, _, rfl, rfl, (by decide : (0 : Int) < 24), rfl, _, rfl, ite2 (fun c1 => ?_) (fun _ => iteF stay)⟩⟩
          refine ⟨_, rfl, .inl ⟨_, rfl, _, _, rfl, rfl, (by decide : (0 : Int) < 2), rfl, _, rfl, ite2 (fun c2 => ?_) (fun _ => iteF stay)⟩⟩
          refine ⟨_, rfl, _, rfl, _, _, rfl, rfl, div_ok (by decide) (by decide), _, _, rfl, rfl, _, rfl, ite2 (fun _ => ⟨_, rfl, _, _, rfl, rfl, _, rfl, ite2 (fun _ => ?_) (fun _ => stay)⟩) (fun _ => ⟨false, rfl, iteF stay⟩)⟩
          have cn : Cnd N kvs (-16 + (i : Int), o) := ⟨(by show -16 ≤ -16 + (i : Int); omega), (by show -16 + (i : Int) ≤ 16; omega), q1, q2, q3, intEq c1, intEq c2⟩
          obtain ⟨as, ha, hps⟩ := pc
          have la2 := Paired.len hps
          refine ⟨_, rfl, .inl ⟨rfl, _, SqL.of ha⟩, _, rfl, _, rfl, by show 2 ≤ sizeLine; decide, fun t nt => ⟨sm, _, _, rfl, rfl, same_upd nt _ _ ha, ?_, ?_⟩⟩
          · rw [List.length_map, sizeLine_eq]
            omega
          · have ntm : sm ≠ t := ne_of_none ha nt
            refine ⟨_, _, cand ++ [(-16 + (i : Int), o)], rfl, (wc.same (same_upd nt)).side smH smne.1 smne.2 smdv smm, ⟨as ++ [t], by rw [upd_same, List.map_append]; rfl, ?_⟩, fun c hc2 => ?_, by rw [List.length_append, List.length_singleton]; omega, ?_⟩
            · refine Paired.snoc ?_ (Paired.mapP hps fun c r e => ?_)
              · rw [upd_ne ntm.symm, upd_same]
                rfl
              · have e' : Hc c = some (tp r) := e
                rw [upd_ne (ne_of e' ha (by intro z; cases z)), upd_ne (ne_of_none e' nt)]
                exact e'
            · rcases List.mem_append.mp hc2 with z | z
              · exact cc c z
              · obtain rfl : c = (-16 + (i : Int), o) := by simpa using z
                exact cn
            · rw [upd_ne neD, upd_ne (ne_of_none hc nt)]
              exact hc
        · rintro σ Hc ⟨o13, o14, cand, rfl, wc, pc, cc, lc, hc⟩
          rw [List.length_map] at lc
          exact ⟨_, _, _, _, cand, rfl, wc, pc, cc, by omega⟩
    · rintro σ Ha ⟨o11, o12, o13, o14, cand, rfl, wa, pa, ca, la⟩
      -- if level == 1 or some == []
      refine ⟨_, rfl, rfl, _, rfl, ite2 (fun c => ?_) (fun c => ?_)⟩
      · have hN : N = 1 := intEq c
        subst hN
        refine iteT ⟨_, rfl, rfl, _, rfl, iT rfl ?_⟩
        refine ⟨_, rfl, ((dk, l), 2), rfl, wa.deck, (by decide : (1 : Int) ≤ 2), (by decide : (2 : Int) ≤ 10000), fun H5 r bt D5 r0 r1 => ?_⟩
        have r1 : r < 2 := r1
        refine ⟨_, _, rfl, rfl, mul_ok (by decide) (by decide) (by omega) (by omega), _, _, rfl, rfl, _, _, rfl, rfl, mul_ok (by decide) (by decide) (by omega) (by omega), by show 2 ≤ sizeLine; decide, fun c nc => ⟨by show 1 ≤ sizeLine; decide, fun o p ho np => ?_⟩⟩
        refine qQ _ p [(1, 24 * (1 - 2 * r))] ?_ ((D5.same (same_upd nc)).same (same_upd np)) (good_one (by omega)) ⟨[c], o, upd_same, ho, .cons ?_ .nil⟩
        · exact ((wa.btw.trans bt).trans (Btw.of (same_upd nc))).trans (Btw.of (same_upd np))
        · exact same_upd np _ _ upd_same
      · have hN : N ≠ 1 := intNe c
        obtain ⟨as, ha, hps⟩ := id pa
        have la2 := Paired.len hps
        refine ⟨_, rfl, Nat.zero_le _, fun e ne => ?_⟩
        have se := same_upd (o := .lst []) ne
        have we := wa.same se
        have pe := pa.same se
        have hae := se _ _ ha
        have hpe : Prs (upd Ha e (.lst [])) as cand := Prs.same se hps
        have hee : upd Ha e (.lst []) e = some (.lst []) := upd_same
        generalize upd Ha e (.lst []) = He at *
        refine ⟨.list (cand.map fun q => .tuple [.int q.1, .int q.2]), .list [], .lst (SqL.of hae) (dp_prs hpe), .lst (SqL.of hee) .nil, shaped_prs cand, by decide, _, rfl, ?_⟩
        rw [eqv_nil']
        cases hcand : cand.isEmpty with
        | true =>
          refine iteT ⟨_, rfl, rfl, _, rfl, iF (vNe hN) ⟨Nat.zero_le _, fun o p ho np => ?_⟩⟩
          exact qQ _ p [] (we.btw.trans (Btw.of (same_upd np))) (we.deck.same (same_upd np)) (good_nil N) ⟨[], o, upd_same, ho, .nil⟩
        | false =>
          refine iteF ?_
          have cne : cand ≠ [] := fun z => by rw [z] at hcand; cases hcand
          have ane : as.map V.ref ≠ [] := fun z => by
            have e1 := congrArg List.length z
            rw [List.length_map, la2] at e1
            exact cne (List.length_eq_zero_iff.mp e1)
          refine ⟨_, rfl, _, rfl, ((dk, l), (sm, as.map V.ref)), rfl, we.deck, .inl hae, smne.2, ane, (by show (as.map V.ref).length ≤ 10000; rw [List.length_map]; omega), fun H6 v bt D6 hv => ?_⟩
          obtain ⟨b, hbm, rfl⟩ := List.mem_map.mp hv
          obtain ⟨c, hcm, hbc⟩ := Paired.mem hpe hbm
          have w6' := we.drawn ne1 ne2 ne3 ne4 bt D6
          have hb6 : H6 b = some (tp c) := by
            obtain ⟨cs, mx, dr, d1, d2, _⟩ := we.deck
            exact bt _ _ hbc (ne_of hbc d1 (by intro z; cases z)) (ne_of hbc d2 (by intro z; cases z))
          obtain ⟨g1, g2, g3⟩ := good_made n1 n2 hN hk hb (ca c hcm)
          have p1 := DiI.put w6'.hm 1 c.1 (by omega)
          have w7' : Wh dk l N dv m (putI kvs 1 c.1) H (upd H6 m (.dK (toK (putI kvs 1 c.1)))) := w6'.put ne3 ne4 nmH
          have l7 := length_putI kvs 1 c.1
          have p2 := DiI.put w7'.hm N c.2 (by omega)
          have w8' : Wh dk l N dv m (kvs ++ [(1, c.1), (N, c.2)]) H (upd (upd H6 m (.dK (toK (putI kvs 1 c.1)))) m (.dK (toK (putI (putI kvs 1 c.1) N c.2)))) := by
            rw [g1]
            exact w7'.put ne3 ne4 nmH
          refine ⟨b, _, rfl, SqT.of hb6, rfl, _, _, rfl, _, rfl, m, _, rfl, p1, _, _, rfl, _, rfl, _, rfl, m, _, rfl, p2, rfl, ?_⟩
          generalize upd (upd H6 m (.dK (toK (putI kvs 1 c.1)))) m (.dK (toK (putI (putI kvs 1 c.1) N c.2))) = H8 at *
          refine ⟨_, rfl, dv, rfl, ⟨_, SqL.of w8'.hdv⟩, fun D hD => lc_joined (K := K) hD w8'.hdv w8'.hm g3 (by omega) (fun _ => rfl) (fun y v H3 R h3 ev r => ?_) (fun y v H3 R h3 ev r => ?_) fun H9 s9 hj => ?_⟩
          · have g := DiI.get h3 y
            rw [ev] at g
            exact ⟨_, rfl, _, rfl, m, _, rfl, g, rfl, _, rfl, r⟩
          · have g := DiI.get h3 y
            rw [ev] at g
            exact ⟨_, rfl, _, rfl, _, rfl, m, _, rfl, g, r⟩
          · obtain ⟨bs, hbs, hrs⟩ := hj
            have w9' := w8'.same s9
            exact ⟨D, _, rfl, SqL.of hbs, fun o p ho np => qQ _ p _ (w9'.btw.trans (Btw.of (same_upd np))) (w9'.deck.same (same_upd np)) g2 ⟨bs, o, upd_same, ho, Prs.same (same_upd np) hrs⟩⟩
end
end K24
/-! K24, D12: the law's own levels, joined products, signs; what is told, what is due. -/
namespace K24
open PySem PySem.Spec PyProof.Rows L2
theorem facF_step {m : Nat} {n p : Int} {l : List Int} (h : facF m n p = some l) (hn : 1 < n) : ∃ f, m = f + 1 ∧ ((n % p = 0 ∧ ∃ l2, facF f (n / p) p = some l2 ∧ l = p :: l2) ∨ (n % p ≠ 0 ∧ facF f n (p + 1) = some l)) := by
  cases m with
  | zero => cases h
  | succ f =>
    unfold facF at h
    rw [if_pos hn] at h
    refine ⟨f, rfl, ?_⟩
    by_cases z : n % p = 0
    · rw [if_pos z] at h
      cases k : facF f (n / p) p with
      | none => rw [k] at h; cases h
      | some l2 =>
        rw [k] at h
        cases h
        exact .inl ⟨z, l2, rfl, rfl⟩
    · rw [if_neg z] at h
      exact .inr ⟨z, h⟩
theorem facF_end {m : Nat} {n p : Int} {l : List Int} (h : facF m n p = some l) (hn : ¬ 1 < n) : l = [] := by
  cases m with
  | zero => cases h
  | succ f =>
    unfold facF at h
    rw [if_neg hn] at h
    cases h
    rfl
theorem cnt_cons (q p : Int) (l : List Int) : cnt q (p :: l) = (if q = p then 1 else 0) + cnt q l := by
  have := cnt_append q [p] l
  have e : cnt q [p] = if q = p then 1 else 0 := by
    have := cnt_rep q p 1
    simpa using this
  rw [e] at this
  exact this
theorem merge_snoc : ∀ (ps acc : Pairs), ((acc ++ ps).map (·.1)).Nodup → mergeK (toK acc) (toK ps) = toK (acc ++ ps)
  | [], acc, _ => by rw [List.append_nil]; rfl
  | q :: r, acc, nd => by
    have e : mergeK (toK acc) (toK (q :: r)) = mergeK (putK (toK acc) (.inl q.1) (.int q.2)) (toK r) := rfl
    have out : q.1 ∉ acc.map (·.1) := by
      rw [List.map_append, List.nodup_append] at nd
      intro z
      exact nd.2.2 q.1 z q.1 (by rw [List.map_cons]; exact List.mem_cons_self) rfl
    rw [e, putK_toK, putI_new (getI_out out), merge_snoc r (acc ++ [(q.1, q.2)]) (by rw [List.append_assoc]; exact nd), List.append_assoc]
    rfl
/-- what _law_told and _law_due hand back -/
def TolD (H : Hp) (p : Addr) (ps : Pairs) : Prop := ∃ s w : Addr, H p = some (.lst [.ref s, .ref w, .int (lvl ps), .int (signM ps)]) ∧ H s = some (tp (stepS ps / 24, 1)) ∧ H w = some (tp (powS ps / 2, 1))
theorem TolD.same {H H' : Hp} {p : Addr} {ps : Pairs} (e : Same H H') (h : TolD H p ps) : TolD H' p ps := by
  obtain ⟨s, w, a, b, c⟩ := h
  exact ⟨s, w, e _ _ a, e _ _ b, e _ _ c⟩
section
variable {P : Program} {w : World} {K : PySem.W.Frag} {mg : Str → Option Value} {base : Heap} {f : Addr} {fd : FuncData}

abbrev s_law_level : Stmt := topS 69
abbrev N_law_level : List Str := ["_law_product", "_law_least", "_law_d", "_law_r"]
theorem sc_law_level : FnScope N_law_level ["_law_product"] (defScope s_law_level) := ⟨rfl, rfl, rfl, by decide +kernel, rfl, by decide +kernel, by decide +kernel⟩
/- [(0, '_law_product'), (1, '_law_least'), (2, '_law_d'), (3, '_law_r')] cells ['_law_least'] calls ['_law_divisor'] -/

theorem ok_law_level (F : Fun K "_law_level" "_law_level" s_law_level f fd) (T : Bl mg) (h_law_divisor : Has P w K mg base 1 "_law_divisor" ["_law_one", "_law_other"] sp_law_divisor) : FnOk P w K mg base CX0 2 f fd ["_law_product"] sp_raw_level := by
  refine okF F sc_law_level (fun _ => rfl) fun cdv A outer s H x Q E hr q => ?_
  refine ⟨_, (pss_cons (ps_set (i := 1) sc_law_level.nd rfl (.inr rfl) pe_int)
  (pss_cons (ps_for PassesOwn.never rfl (pi_tup (pv 0)) (pg_tup rfl (pgs_cons (pg_name (i := 2) sc_law_level.nd rfl (.inl rfl)) (pgs_cons (pg_name (i := 3) sc_law_level.nd rfl (.inl rfl)) pgs_nil)))
    (pss_one (ps_set (i := 1) sc_law_level.nd rfl (.inr rfl) (pe_op op_mulW (pe_op op_fdivW (pv 1) (pe_fn h_law_divisor (hr.mono (by decide)) (by rfl) (pa_cons (pv 1) (pa_cons (pv 2) pa_nil)))) (pv 2)))))
  (pss_cons (ps_if (PW.pt (pw_or (pt_cmpR op_ne (pe_op op_mod (pe_callTy call_int1 (by rfl) T.int (by decide +kernel) (pa_cons (pe_callB (cr_sum rfl) (by rfl) T.sum (by decide +kernel) (pa_cons (pe_lc (own := [("_law_d", 2), ("_law_r", 3)]) (g := (gTup K 2 (gCons (gName 2) (gCons (gName 3) gNil)))) rfl sc_law_level.nd (pi_tup (pv 0)) (blkOk_by (own := [("_law_d", 2), ("_law_r", 3)]) (N := N_law_level) (sc := defScope s_law_level) (by decide +kernel)) (fun _ _ _ _ _ => pg_tup rfl (pgs_cons (pg_name (i := 2) sc_law_level.nd rfl (Or.inl rfl)) (pgs_cons (pg_name (i := 3) sc_law_level.nd rfl (Or.inl rfl)) pgs_nil))) (fun _ _ _ _ _ => pts_nil) (fun _ _ _ _ _ => (pv 3))) pa_nil)) pa_nil)) pe_int) pe_int (nomark _)) (pw_or1 (pt_cmpR op_ne (pe_op op_mod (pe_callTy call_int1 (by rfl) T.int (by decide +kernel) (pa_cons (pe_callB (cr_sum rfl) (by rfl) T.sum (by decide +kernel) (pa_cons (pe_lc (own := [("_law_d", 2), ("_law_r", 3)]) (g := (gTup K 2 (gCons (gName 2) (gCons (gName 3) gNil)))) rfl sc_law_level.nd (pi_tup (pv 0)) (blkOk_by (own := [("_law_d", 2), ("_law_r", 3)]) (N := N_law_level) (sc := defScope s_law_level) (by decide +kernel)) (fun _ _ _ _ _ => pg_tup rfl (pgs_cons (pg_name (i := 2) sc_law_level.nd rfl (Or.inl rfl)) (pgs_cons (pg_name (i := 3) sc_law_level.nd rfl (Or.inl rfl)) pgs_nil))) (fun _ _ _ _ _ => pts_nil) (fun _ _ _ _ _ => (pe_op op_mulW (pv 2) (pv 3)))) pa_nil)) pa_nil)) pe_int) pe_int (nomark _)))))
    (pss_one (ps_ret pe_non))
    pss_nil)
  (pss_one (ps_ret (pe_op op_fdivW (pe_op op_mulW (pv 1) pe_int) (pe_fn h_law_divisor (hr.mono (by decide)) (by rfl) (pa_cons pe_int (pa_cons (pe_callB (cr_sum rfl) (by rfl) T.sum (by decide +kernel) (pa_cons (pe_lc (own := [("_law_d", 2), ("_law_r", 3)]) (g := (gTup K 2 (gCons (gName 2) (gCons (gName 3) gNil)))) rfl sc_law_level.nd (pi_tup (pv 0)) (blkOk_by (own := [("_law_d", 2), ("_law_r", 3)]) (N := N_law_level) (sc := defScope s_law_level) (by decide +kernel)) (fun _ _ _ _ _ => pg_tup rfl (pgs_cons (pg_name (i := 2) sc_law_level.nd rfl (Or.inl rfl)) (pgs_cons (pg_name (i := 3) sc_law_level.nd rfl (Or.inl rfl)) pgs_nil))) (fun _ _ _ _ _ => pts_nil) (fun _ _ _ _ _ => (pe_op op_mulW (pe_op op_fdivW (pv 1) (pv 2)) (pv 3)))) pa_nil)) pa_nil))))))))), ?_⟩
  obtain ⟨a, ps⟩ := x
  obtain ⟨hp, ⟨M, fit, hM1, hM2⟩, qQ⟩ := q
  have fit : Fit M ps := fit
  have hp : PrT H a ps := hp
  have hi := fit.prod hM1 hM2
  refine ⟨_, rfl, a, rfl, hp.sqx, for_pairs (ps := ps) (fun i σ H' => ∃ (o1 o2 : Option V), σ = [some (.ref a), some (.int (lcmF 1 (ps.take i))), o1, o2] ∧ H' = H) ⟨_, _, rfl, rfl⟩ ?_ ?_ ?_⟩
  · rintro i σ H' ⟨_, _, _, rfl⟩
    exact hp
  · rintro i q σ H' hq ⟨o1, o2, rfl, rfl⟩
    obtain ⟨c1, c2⟩ := lcmF_le hM1 fit.dv i
    obtain ⟨d1, d2, _⟩ := hi.2.2 q (mem_at hq)
    have g0 : 0 < gcI (lcmF 1 (ps.take i)) q.1 := gcI_pos (.inl (by omega))
    obtain ⟨_, g2, _, _, _⟩ := norm_frac (x := lcmF 1 (ps.take i)) (y := q.1) (by omega)
    obtain ⟨z1, z2⟩ := div_small (n := lcmF 1 (ps.take i)) (q := gcI (lcmF 1 (ps.take i)) q.1) (B := 400) (by omega) (by decide) (by omega) (by omega)
    refine ⟨_, rfl, _, rfl, _, rfl, (lcmF 1 (ps.take i), q.1), rfl, _, _, rfl, rfl, div_ok g0 (by show gcI (lcmF 1 (ps.take i)) q.1 ≤ _; omega), _, rfl, _, _, rfl, rfl, (show CMulW (lcmF 1 (ps.take i) / gcI (lcmF 1 (ps.take i)) q.1) q.1 from mul_ok (by omega) (by omega) (by omega) (by omega)), some (.int q.1), some (.int q.2), ?_, rfl⟩
    rw [lcmF_snoc hq]
    rfl
  · rintro σ H' ⟨o1, o2, rfl, rfl⟩
    have ec : lcmF 1 (ps.take ps.length) = com ps := by rw [List.take_length]; rfl
    rw [ec]
    obtain ⟨c1, c2⟩ := lcmF_le hM1 fit.dv ps.length
    rw [ec] at c1 c2
    have epow : (ps.map fun q => q.2).sum = powS ps := by
      have := S_map_sum (fun _ => 1) ps
      simpa using this
    have estep : (ps.map fun q => q.1 * q.2).sum = stepS ps := S_map_sum (fun d => d) ps
    have efar : (ps.map fun q => com ps / q.1 * q.2).sum = S (fun d => com ps / d) ps := S_map_sum (fun d => com ps / d) ps
    refine ⟨_, rfl, a, rfl, hp.sqx, fun D hD => lc_pairs (K := K) hD (fun q => .int q.2) hp (len1000 hi) (fun _ _ => rfl) (fun q hq H2 R sm r => ⟨_, rfl, r⟩) fun H2 s2 hd => ?_⟩
    rw [map_int (f := fun q => q.2)] at hd
    refine ⟨D, _, rfl, SqL.of hd, .inl ⟨_, rfl, _, _, rfl, rfl, (by decide : (0 : Int) < 2), rfl, _, rfl, iteNS (vEq (by rw [epow]; exact fit.ev)) ?_⟩⟩
    have hp2 := hp.same s2
    refine ⟨_, rfl, a, rfl, hp2.sqx, fun D hD => lc_pairs (K := K) hD (fun q => .int (q.1 * q.2)) hp2 (len1000 hi) (fun _ _ => rfl) (fun q hq H3 R sm r => ?_) fun H3 s3 hd3 => ?_⟩
    · obtain ⟨d1, d2, d3, d4, d5⟩ := hi.2.2 q hq
      exact ⟨_, rfl, _, rfl, _, _, rfl, rfl, mul_ok (by omega) (by omega) (by omega) (by omega), r⟩
    rw [map_int (f := fun q => q.1 * q.2)] at hd3
    refine ⟨D, _, rfl, SqL.of hd3, .inl ⟨_, rfl, _, _, rfl, rfl, (by decide : (0 : Int) < 24), rfl, _, rfl, iteNS (vEq (by rw [estep]; exact fit.st)) ?_⟩⟩
    have hp3 := hp2.same s3
    refine ⟨_, rfl, _, _, rfl, rfl, mul_ok (by omega) (by omega) (by decide) (by decide), _, rfl, a, rfl, hp3.sqx, fun D hD => lc_pairs (K := K) hD (fun q => .int (com ps / q.1 * q.2)) hp3 (len1000 hi) (fun _ _ => rfl) (fun q hq H4 R sm r => ?_) fun H4 s4 hd4 => ?_⟩
    · obtain ⟨d1, d2, d3, d4, d5⟩ := hi.2.2 q hq
      obtain ⟨e1, e2⟩ := div_small (n := com ps) (q := q.1) (B := 400) d1 (by decide) (by omega) (by omega)
      exact ⟨_, rfl, _, rfl, _, _, rfl, rfl, div_ok (by omega) (by omega), _, rfl, _, _, rfl, rfl, (show CMulW (com ps / q.1) q.2 from mul_ok (by omega) (by omega) (by omega) (by omega)), r⟩
    rw [map_int (f := fun q => com ps / q.1 * q.2)] at hd4
    obtain ⟨g1, g2, g3, g4⟩ := gc24 (S (fun d => com ps / d) ps)
    refine ⟨D, _, rfl, SqL.of hd4, ?_⟩
    rw [efar]
    refine ⟨(24, S (fun d => com ps / d) ps), rfl, _, _, rfl, rfl, div_ok (show 0 < gcI 24 (S (fun d => com ps / d) ps) by omega) (by show gcI 24 (S (fun d => com ps / d) ps) ≤ _; omega), ?_⟩
    have e : com ps * 24 / gcI 24 (S (fun d => com ps / d) ps) = lvl ps := mul_div_of (c := com ps) g1 g2
    show Q (.int (com ps * 24 / gcI 24 (S (fun d => com ps / d) ps))) H4
    rw [e]
    exact qQ H4 ((s2.trans s3).trans s4)

abbrev s_law_joined : Stmt := topS 70
abbrev N_law_joined : List Str := ["_law_one", "_law_other", "_law_found", "_law_d", "_law_r"]
theorem sc_law_joined : FnScope N_law_joined ["_law_one", "_law_other"] (defScope s_law_joined) := ⟨rfl, rfl, rfl, by decide +kernel, rfl, by decide +kernel, by decide +kernel⟩
/- [(0, '_law_one'), (1, '_law_other'), (2, '_law_found'), (3, '_law_d'), (4, '_law_r')] cells ['_law_found'] calls [] -/

abbrev sp_law_joined : Sp := SpF enPP fun x H Q => PrD H x.1.1 x.1.2 ∧ IsProd x.1.2 ∧ PrT H x.2.1 x.2.2 ∧ IsProd x.2.2 ∧ ∀ H' p js, Same H H' → Joined x.1.2 x.2.2 js → PrT H' p js → Q (.ref p) H'
theorem ok_law_joined (F : Fun K "_law_joined" "_law_joined" s_law_joined f fd) (T : Bl mg) : FnOk P w K mg base CX0 1 f fd ["_law_one", "_law_other"] sp_law_joined := by
  refine okF F sc_law_joined (fun _ => rfl) fun cdv A outer s H x Q E hr q => ?_
  refine ⟨_, (pss_cons (ps_set (i := 2) sc_law_joined.nd rfl (.inr rfl) (pe_callTy (call_dictT rfl) (by rfl) T.dict (by decide +kernel) (pa_cons (pv 0) pa_nil)))
  (pss_cons (ps_for PassesOwn.never rfl (pi_tup (pv 1)) (pg_tup rfl (pgs_cons (pg_name (i := 3) sc_law_joined.nd rfl (.inl rfl)) (pgs_cons (pg_name (i := 4) sc_law_joined.nd rfl (.inl rfl)) pgs_nil)))
    (pss_one (ps_dput (hu_of hr) (pv 2) (pv 3) (pe_op op_add (pe_dget2 (hu_of hr) (pv 2) (pv 3) pe_int ⟨rfl, rfl, rfl, rfl⟩) (pv 4)) rfl)))
  (pss_one (ps_ret (pe_callTy call_tuple_of (by rfl) T.tuple (by decide +kernel) (pa_cons (pe_lc (own := [("_law_d", 3)]) (g := (gName 3)) rfl sc_law_joined.nd (pi_list (pe_callB (call_sortedDI rfl) (by rfl) T.sorted (by decide +kernel) (pa_cons (pv 2) pa_nil))) (blkOk_by (own := [("_law_d", 3)]) (N := N_law_joined) (sc := defScope s_law_joined) (by decide +kernel)) (fun _ _ _ _ _ => pg_name (i := 3) sc_law_joined.nd rfl (Or.inl rfl)) (fun _ _ _ _ _ => pts_one (pt_cmpR op_ne (pe_dget (hu_of hr) (pv 2) (pv 3) (fun _ _ => rfl)) pe_int (nomark _))) (fun _ _ _ _ _ => (pe_tup (pa_cons (pv 3) (pa_cons (pe_dget (hu_of hr) (pv 2) (pv 3) (fun _ _ => rfl)) pa_nil))))) pa_nil)))))), ?_⟩
  obtain ⟨⟨a, ps⟩, ⟨b, qs⟩⟩ := x
  obtain ⟨⟨as, ob, ha, hob, hps⟩, ip, hq, iq, qQ⟩ := q
  have ip : IsProd ps := ip
  have iq : IsProd qs := iq
  have hq : PrT H b qs := hq
  have hps : Prs H as ps := hps
  refine ⟨_, rfl, a, ob, as, toK ps, rfl, ha, hob, ?_, fun m nm => ?_⟩
  · have key : ∀ {as : List Addr} {ps : Pairs}, Prs H as ps → Paired (fun p kv => SqT K H p [kV kv.1, kv.2]) as (toK ps) := by
      intro as ps h
      unfold Prs at h
      induction h with
      | nil => exact .nil
      | cons r _ ih => exact .cons (SqT.of r) ih
    exact key hps
  have em : mergeK [] (toK ps) = toK ps := merge_snoc ps [] ip.2.1.nodup
  rw [em]
  have s1 : Same H (upd H m (.dK (toK ps))) := same_upd nm
  have hm1 : DiI (upd H m (.dK (toK ps))) m ps := upd_same
  generalize upd H m (.dK (toK ps)) = H1 at *
  have l8 := ip.1
  have r8 := iq.1
  refine ⟨_, rfl, b, rfl, (hq.same s1).sqx, for_pairs (ps := qs) (fun i σ H' => ∃ (o3 o4 : Option V) (kvs : Pairs), σ = [some (.ref a), some (.ref b), some (.ref m), o3, o4] ∧ Same H H' ∧ DiI H' m kvs ∧ (kvs.map (·.1)).Nodup ∧ (∀ f, S f kvs = S f ps + S f (qs.take i)) ∧
      (∀ q ∈ kvs, q.1 ∈ ps.map (·.1) ∨ q.1 ∈ qs.map (·.1)) ∧ kvs.length ≤ 8 + i) ⟨_, _, ps, rfl, s1, hm1, ip.2.1.nodup, fun _ => by simp [S], fun q hq => .inl (List.mem_map.mpr ⟨q, hq, rfl⟩), l8⟩ ?_ ?_ ?_⟩
  · rintro i σ H' ⟨_, _, _, _, h, _⟩
    exact hq.same h
  · rintro i q σ H' hq' ⟨o3, o4, kvs, rfl, sm, hd, nd, hS, hk, hl⟩
    have lt : i < 8 := Nat.lt_of_lt_of_le (List.getElem?_eq_some_iff.mp hq').1 r8
    refine ⟨_, rfl, m, rfl, .inl ⟨_, .inl hd⟩, _, rfl, _, DiI.get hd q.1, _, rfl, (getI kvs q.1).getD 0, q.2, getD_int _, rfl, _, rfl, _, rfl, m, _, rfl, DiI.put hd q.1 _ (by omega), ?_⟩
    refine ⟨some (.int q.1), some (.int q.2), putI kvs q.1 ((getI kvs q.1).getD 0 + q.2), rfl, fun b o z => ?_, upd_same, nodup_putI nd, fun f => ?_, fun y hy => ?_, ?_⟩
    · rw [upd_ne (ne_of_none z nm)]
      exact sm b o z
    · rw [S_putI f nd, hS, take_S hq']
      omega
    · rcases mem_putI hy with e | e
      · rw [e]
        exact .inr (List.mem_map.mpr ⟨q, mem_at hq', rfl⟩)
      · exact hk y e
    · have := length_putI kvs q.1 ((getI kvs q.1).getD 0 + q.2)
      omega
  · rintro σ H' ⟨o3, o4, kvs, rfl, sm, hd, nd, hS, hk, hl⟩
    rw [List.take_length] at hS
    refine ⟨_, rfl, m, toK kvs, kvs.map (·.1), rfl, .inl hd, toK_keys kvs, by rw [List.length_map]; omega, fun ys p per ord np => ?_⟩
    have hd2 : DiI (upd H' p (.lst (ys.map V.int))) m kvs := same_upd np _ _ hd
    have ly : ys.length ≤ 16 := by rw [per.length_eq, List.length_map]; omega
    refine ⟨p, rfl, ⟨_, SqL.of upd_same⟩, fun D hD => lc_joined (K := K) hD upd_same hd2 (fun y hy => ?_) (by omega) (fun _ => rfl) (fun y v H3 R h3 ev r => ?_) (fun y v H3 R h3 ev r => ?_) fun H3 s3 hj => ?_⟩
    · obtain ⟨q, hq', e⟩ := List.mem_map.mp (per.mem_iff.mp hy)
      exact ⟨q.2, by rw [← e]; exact getI_of_mem nd hq'⟩
    · have g := DiI.get h3 y
      rw [ev] at g
      exact ⟨_, rfl, _, rfl, m, _, rfl, g, rfl, _, rfl, r⟩
    · have g := DiI.get h3 y
      rw [ev] at g
      exact ⟨_, rfl, _, rfl, _, rfl, m, _, rfl, g, r⟩
    · have J : Joined ps qs (jlist kvs ys) := jlist_joined nd hS hk per ord
      obtain ⟨bs, hb, hbs⟩ := hj
      exact ⟨D, _, rfl, .inl ⟨SqL.of hb, fun l nl => qQ _ l _ (((sm.trans (same_upd np)).trans s3).trans (same_upd nl)) J ⟨bs, .inl upd_same, Prs.same (same_upd nl) hbs⟩⟩⟩

abbrev s_law_product_sign : Stmt := topS 71
abbrev N_law_product_sign : List Str := ["_law_product", "_law_odd", "_law_found", "_law_d", "_law_r", "_law_p", "_law_rest"]
theorem sc_law_product_sign : FnScope N_law_product_sign ["_law_product"] (defScope s_law_product_sign) := ⟨rfl, rfl, rfl, by decide +kernel, rfl, by decide +kernel, by decide +kernel⟩
/- [(0, '_law_product'), (1, '_law_odd'), (2, '_law_found'), (3, '_law_d'), (4, '_law_r'), (5, '_law_p'), (6, '_law_rest')] cells [] calls [] -/

abbrev sp_law_product_sign : Sp := SpF enP fun x H Q => PrT H x.1 x.2 ∧ IsProd x.2 ∧ Sgn x.2 ∧ powS x.2 % 2 = 0 ∧ ∀ H', Same H H' → Q (.int (signM x.2)) H'
theorem ok_law_product_sign (F : Fun K "_law_product_sign" "_law_product_sign" s_law_product_sign f fd) (T : Bl mg) : FnOk P w K mg base CX0 1 f fd ["_law_product"] sp_law_product_sign := by
  refine okF F sc_law_product_sign (fun _ => rfl) fun cdv A outer s H x Q E hr q => ?_
  refine ⟨_, (C8.pss_cut (ps_par (i := 1) (j := 2) (by rfl) sc_law_product_sign.nd rfl rfl (by decide) rfl rfl (pa_cons pe_dnewK (pa_cons (pe_ifExp (pt_cmpR op_eq (pe_op op_mod (pe_callTy call_int1 (by rfl) T.int (by decide +kernel) (pa_cons (pe_callB (cr_sum rfl) (by rfl) T.sum (by decide +kernel) (pa_cons (pe_lc (own := [("_law_d", 3), ("_law_r", 4)]) (g := (gTup K 2 (gCons (gName 3) (gCons (gName 4) gNil)))) rfl sc_law_product_sign.nd (pi_tup (pv 0)) (blkOk_by (own := [("_law_d", 3), ("_law_r", 4)]) (N := N_law_product_sign) (sc := defScope s_law_product_sign) (by decide +kernel)) (fun _ _ _ _ _ => pg_tup rfl (pgs_cons (pg_name (i := 3) sc_law_product_sign.nd rfl (Or.inl rfl)) (pgs_cons (pg_name (i := 4) sc_law_product_sign.nd rfl (Or.inl rfl)) pgs_nil))) (fun _ _ _ _ _ => pts_nil) (fun _ _ _ _ _ => (pv 4))) pa_nil)) pa_nil)) pe_int) pe_int (nomark _)) pe_int (pe_un un_neg pe_int)) pa_nil)) (by rfl))
  (pss_cons (ps_for PassesOwn.never rfl (pi_tup (pv 0)) (pg_tup rfl (pgs_cons (pg_name (i := 3) sc_law_product_sign.nd rfl (.inl rfl)) (pgs_cons (pg_name (i := 4) sc_law_product_sign.nd rfl (.inl rfl)) pgs_nil)))
    (C8.pss_cut (ps_par (i := 6) (j := 5) (by rfl) sc_law_product_sign.nd rfl rfl (by decide) rfl rfl (pa_cons (pe_op op_add (pe_op op_mulW (pv 3) (pe_callTy call_int1 (by rfl) T.int (by decide +kernel) (pa_cons (pe_op op_mod (pe_callTy call_int1 (by rfl) T.int (by decide +kernel) (pa_cons (pv 4) pa_nil)) pe_int) pa_nil))) (pe_callTy call_int1 (by rfl) T.int (by decide +kernel) (pa_cons (pe_cmpR op_eq (pe_op op_mod (pe_callTy call_int1 (by rfl) T.int (by decide +kernel) (pa_cons (pv 4) pa_nil)) pe_int) pe_int (nomark _)) pa_nil))) (pa_cons pe_int pa_nil)) (by rfl))
  (pss_one (ps_while PassesOwn.never (pt_cmpR op_gt (pv 6) pe_int (nomark _))
    (pss_one (ps_if (pt_cmpR op_eq (pe_op op_mod (pe_callTy call_int1 (by rfl) T.int (by decide +kernel) (pa_cons (pv 6) pa_nil)) (pv 5)) pe_int (nomark _))
    (pss_cons (ps_set (i := 6) sc_law_product_sign.nd rfl (.inl rfl) (pe_op op_fdivW (pv 6) (pv 5)))
  (pss_one (ps_dput (hu_of hr) (pv 1) (pv 5) (pe_op op_sub pe_int (pe_dget2 (hu_of hr) (pv 1) (pv 5) pe_int ⟨rfl, rfl, rfl, rfl⟩)) rfl)))
    (pss_one (ps_set (i := 5) sc_law_product_sign.nd rfl (.inl rfl) (pe_op op_add (pv 5) pe_int)))))))))
  (pss_cons (ps_lock (ps_for PassesOwn.never rfl (pi_keys (pv 1)) (pg_name (i := 5) sc_law_product_sign.nd rfl (.inl rfl))
    (pss_one (ps_set (i := 2) sc_law_product_sign.nd rfl (.inl rfl) (pe_op op_mulW (pv 2) (pe_ifExp (pt_cmpR op_eq (pe_dget (hu_of hr) (pv 1) (pv 5) (fun _ _ => rfl)) pe_int (nomark _)) (pv 5) pe_int))))))
  (pss_one (ps_ret (pe_ifExp (pt_cmpR op_eq (pe_op op_mod (pe_callTy call_int1 (by rfl) T.int (by decide +kernel) (pa_cons (pv 2) pa_nil)) pe_int) pe_int (nomark _)) (pv 2) (pe_op op_mulW pe_int (pv 2)))))))), ?_⟩
  obtain ⟨a, ps⟩ := x
  obtain ⟨hp, hi, hs, hev, qQ⟩ := q
  have hp : PrT H a ps := hp
  have hi : IsProd ps := hi
  have hs : Sgn ps := hs
  have hev : powS ps % 2 = 0 := hev
  have eps := eps_small ps
  -- odd, found = {}, 1 or -1
  refine ⟨fun σ' H2 => ∃ m, H m = none ∧ Same H H2 ∧ DiI H2 m [] ∧ σ' = [some (.ref a), some (.ref m), some (.int (epsM ps)), none, none, none, none], ?_, ?_⟩
  · refine fun m nm => ?_
    have s1 := same_upd (o := .dK []) nm
    have hp1 := hp.same s1
    refine ⟨_, rfl, a, rfl, hp1.sqx, fun D hD => lc_pairs (K := K) hD (fun q => .int q.2) hp1 (len1000 hi) (fun _ _ => rfl) (fun q hq H2 R sm r => ⟨_, rfl, r⟩) fun H2 s2 hd => ?_⟩
    rw [map_int (f := fun q => q.2)] at hd
    have epow : (ps.map fun q => q.2).sum = powS ps := by
      have := S_map_sum (fun _ => 1) ps
      simpa using this
    refine ⟨D, _, rfl, SqL.of hd, ?_⟩
    rw [epow]
    refine .inl ⟨_, rfl, _, _, rfl, rfl, (by decide : (0 : Int) < 4), rfl, _, rfl, ite2 (fun c => ?_) (fun c => ?_)⟩
    · have e := intEq c
      refine ⟨_, _, rfl, m, nm, s1.trans s2, s2 _ _ upd_same, ?_⟩
      have : epsM ps = 1 := by
        unfold epsM
        rw [if_neg (by have : powS ps % 4 = 0 := e; omega)]
      rw [this]
      rfl
    · have e := intNe c
      refine ⟨1, rfl, _, _, rfl, m, nm, s1.trans s2, s2 _ _ upd_same, ?_⟩
      have : epsM ps = -1 := by
        unfold epsM
        rw [if_pos (by have : ¬ powS ps % 4 = 0 := e; omega)]
      rw [this]
      rfl
  · rintro σ' H1 ⟨m, nm, s1, hm1, rfl⟩
    refine ⟨_, rfl, a, rfl, (hp.same s1).sqx, for_pairs (ps := ps) (fun i σ H' => ∃ (o3 o4 o5 o6 : Option V) (kvs : Pairs), σ = [some (.ref a), some (.ref m), some (.int (epsM ps)), o3, o4, o5, o6] ∧ Same H H' ∧ DiI H' m kvs ∧ Met kvs (fun p => S (val p) (ps.take i)))
      ⟨_, _, _, _, [], rfl, s1, hm1, Met.nil⟩ ?_ ?_ ?_⟩
    · rintro i σ H' ⟨_, _, _, _, _, _, sm, _⟩
      exact hp.same sm
    · rintro i q σ H' hq ⟨o3, o4, o5, o6, kvs, rfl, sm, hD, hM⟩
      obtain ⟨t1, t2, t3⟩ := hs q (mem_at hq)
      refine ⟨fun σ' H2 => σ' = [some (.ref a), some (.ref m), some (.int (epsM ps)), some (.int q.1), some (.int q.2), some (.int 2), some (.int (leftOf q))] ∧ H2 = H', ?_, ?_⟩
      · refine ⟨_, rfl, _, rfl, .inl ⟨_, rfl, _, _, rfl, rfl, (by decide : (0 : Int) < 2), .inl ⟨_, rfl, _, _, rfl, rfl, mul_ok (by omega) (by omega) (by omega) (by omega), _, rfl, .inl ⟨_, rfl, _, _, rfl, rfl, (by decide : (0 : Int) < 2), rfl, .inr ⟨_, rfl, _, _, rfl, rfl, _, _, rfl, ?_, rfl⟩⟩⟩⟩⟩
        have e : q.1 * (q.2 % 2) + (if decide (V.int (q.2 % 2) = V.int 0) = true then (1 : Int) else 0) = leftOf q := by
          unfold leftOf
          by_cases h : q.2 % 2 = 1
          · have h0 : ¬ decide (V.int (q.2 % 2) = V.int 0) = true := fun z => by have := intEq z; omega
            rw [if_neg h0, if_pos h, h]
            omega
          · have h2 : q.2 % 2 = 0 := by omega
            rw [if_pos (decide_eq_true (vEq h2)), if_neg h, h2]
            omega
        rw [← e]
        rfl
      · rintro σ' H2 ⟨rfl, rfl⟩
        have l1 : 1 ≤ leftOf q := by unfold leftOf; split <;> omega
        have l2 : leftOf q ≤ 144 := by unfold leftOf; split <;> omega
        have l3 : PP % leftOf q = 0 := by
          unfold leftOf
          split
          · exact t3
          · exact Int.emod_one PP
        obtain ⟨_, l, rt, tk⟩ := runs_of l1 l2 l3
        refine ⟨fun m2 σ H5 => ∃ (n p : Int) (kvs : Pairs) (l' : List Int), σ = [some (.ref a), some (.ref m), some (.int (epsM ps)), some (.int q.1), some (.int q.2), some (.int p), some (.int n)] ∧ Same H H5 ∧ DiI H5 m kvs ∧ facF m2 n p = some l' ∧ (∀ x ∈ l', x ∈ P23) ∧ 1 ≤ n ∧ n ≤ 144 ∧ 2 ≤ p ∧ p + m2 ≤ 100 ∧
            Met kvs (fun x => S (val x) (ps.take i) + cnt x l - cnt x l'), ⟨60, leftOf q, 2, kvs, l, rfl, sm, hD, rt, tk.1, l1, l2, by decide, by decide, hM.congr fun x _ => by omega⟩, ?_⟩
        rintro m2 σ H5 ⟨n, p, kvs2, l', rfl, sm5, hD5, rf, hP, n1, n2, p1, p2, hM5⟩
        have k9 := hM5.length
        refine ⟨_, rfl, _, _, rfl, rfl, _, rfl, ite2 (fun c => ?_) (fun c => ?_)⟩
        · obtain ⟨m3, rfl, st⟩ := facF_step rf (of_decide_eq_true c)
          refine ⟨fun σ H5 => ∃ (n p : Int) (kvs : Pairs) (l' : List Int), σ = [some (.ref a), some (.ref m), some (.int (epsM ps)), some (.int q.1), some (.int q.2), some (.int p), some (.int n)] ∧ Same H H5 ∧ DiI H5 m kvs ∧ facF m3 n p = some l' ∧ (∀ x ∈ l', x ∈ P23) ∧ 1 ≤ n ∧ n ≤ 144 ∧ 2 ≤ p ∧ p + m3 ≤ 100 ∧
            Met kvs (fun x => S (val x) (ps.take i) + cnt x l - cnt x l'), fun σ' H5 z => ⟨m3, by omega, z⟩, ?_⟩
          refine ⟨_, rfl, .inl ⟨_, rfl, _, rfl, _, _, rfl, rfl, (by omega : (0 : Int) < p), rfl, _, rfl, ite2 (fun c2 => ?_) (fun c2 => ?_)⟩⟩
          · rcases st with ⟨_, l2', rf2, rfl⟩ | ⟨z, _⟩
            · obtain ⟨d1, d2⟩ := div_ge1 n1 (show 1 ≤ p by omega) (intEq c2)
              have pP := hP p List.mem_cons_self
              refine ⟨_, rfl, _, rfl, _, _, rfl, rfl, div_ok (by omega) (by omega), ?_⟩
              refine ⟨_, rfl, m, rfl, .inl ⟨_, .inl hD5⟩, _, rfl, _, DiI.get hD5 p, 1, (getI kvs2 p).getD 0, rfl, getD_int _, _, rfl, _, rfl, m, _, rfl, DiI.put hD5 p _ (by omega), ?_⟩
              refine ⟨n / p, p, _, l2', rfl, fun b o z => ?_, upd_same, rf2, fun x hx => hP x (List.mem_cons_of_mem _ hx), d1, by omega, p1, by omega, (hM5.toggle pP).congr fun x _ => ?_⟩
              · rw [upd_ne (ne_of_none z nm)]
                exact sm5 b o z
              · rw [cnt_cons]
                by_cases xp : x = p
                · rw [if_pos xp]
                  omega
                · rw [if_neg xp]
                  omega
            · exact absurd (intEq c2) z
          · rcases st with ⟨z, _⟩ | ⟨_, rf2⟩
            · exact absurd z (intNe c2)
            · exact ⟨_, rfl, _, _, rfl, rfl, n, p + 1, kvs2, l', rfl, sm5, hD5, rf2, hP, n1, n2, by omega, by omega, hM5⟩
        · obtain rfl := facF_end rf (fun z => c (decide_eq_true z))
          refine ⟨_, _, _, _, kvs2, rfl, sm5, hD5, hM5.congr fun p hp' => ?_⟩
          rw [take_S hq, tk.2 p hp']
          have := par_left (q := q) (s := S (val p) (ps.take i)) hp'
          have z : cnt p [] = 0 := rfl
          omega
    · rintro σ H' ⟨o3, o4, o5, o6, kvs, rfl, sm, hD, hM⟩
      rw [List.take_length] at hM
      refine ⟨m, _, hD, True.intro, fun od => ⟨_, rfl, m, od, rfl, .inl ⟨_, upd_same, for_keysI (l := kvs) (fun i σ H3 => ∃ (o5 : Option V), σ = [some (.ref a), some (.ref m), some (.int (epsM ps * facs (kvs.take i))), o3, o4, o5, o6] ∧ H3 = upd H' m (.frz od (.dK (toK kvs)))) ⟨o5, by
        show _ = [some (V.ref a), some (V.ref m), some (V.int (epsM ps * 1)), o3, o4, o5, o6]
        rw [Int.mul_one], rfl⟩ ?_ ?_ ?_⟩⟩⟩
      · rintro i σ H3 ⟨_, _, rfl⟩
        exact upd_same
      · rintro i q σ H3 hq ⟨o5, rfl, rfl⟩
        have gq : getI kvs q.1 = some q.2 := getI_of_mem hM.nd (mem_at hq)
        have g1 := DiI.getF (H := upd H' m (.frz od (.dK (toK kvs)))) (a := m) (l := kvs) upd_same q.1
        rw [gq] at g1
        have fs : facs (kvs.take (i + 1)) = facs (kvs.take i) * fac q := by rw [List.take_add_one, hq]; exact facs_snoc _ q
        have k9 := hM.length
        have okT : ∀ x ∈ kvs.take i, x.1 ∈ P23 ∧ (x.2 = 0 ∨ x.2 = 1) := fun x hx => hM.ok x (List.mem_of_mem_take hx)
        have sm60 := found_small eps okT (by rw [List.length_take]; omega)
        have q23 : q.1.natAbs < 2 ^ 60 := by
          have k : ∀ p ∈ P23, p.natAbs < 2 ^ 60 := by decide
          exact k _ (hM.ok q (mem_at hq)).1
        refine ⟨_, rfl, _, rfl, _, rfl, m, _, rfl, g1, rfl, _, rfl, ite2 (fun c => ?_) (fun c => ?_)⟩
        · refine ⟨_, rfl, _, _, rfl, rfl, mul_big (Nat.lt_trans sm60 (by decide)) (Nat.lt_trans q23 (by decide)), some (.int q.1), ?_, rfl⟩
          rw [fs, ← Int.mul_assoc]
          unfold fac
          rw [if_pos (intEq c)]
          rfl
        · refine ⟨_, _, rfl, rfl, mul_big (Nat.lt_trans sm60 (by decide)) (by decide), some (.int q.1), ?_, rfl⟩
          rw [fs, ← Int.mul_assoc]
          unfold fac
          rw [if_neg (intNe c)]
          rfl
      · rintro σ H3 ⟨o5, rfl, rfl⟩
        refine ⟨upd_same, ?_⟩
        rw [upd_upd, List.take_length, hM.facs]
        have back : Same H (upd H' m (.dK (toK kvs))) := fun b o z => by
          rw [upd_ne (ne_of_none z nm)]
          exact sm b o z
        have bd := found_small eps (l := kvs) hM.ok hM.length
        rw [hM.facs] at bd
        have fin := qQ _ back
        have e2 : mQ P23 (fun p => S (val p) ps) = mQ P23 (eP ps) := rfl
        rw [e2] at bd ⊢
        have fin : Q (.int (nrm (epsM ps * mQ P23 (eP ps)))) (upd H' m (.dK (toK kvs))) := fin
        unfold nrm at fin
        generalize epsM ps * mQ P23 (eP ps) = z at *
        by_cases e : z % 4 = 1
        · rw [if_pos e] at fin
          exact ⟨_, rfl, .inl ⟨_, rfl, _, _, rfl, rfl, show (0 : Int) < 4 by decide, rfl, _, rfl, iT (vEq e) ⟨_, rfl, fin⟩⟩⟩
        · rw [if_neg e] at fin
          exact ⟨_, rfl, .inl ⟨_, rfl, _, _, rfl, rfl, show (0 : Int) < 4 by decide, rfl, _, rfl, iF (vNe e) ⟨_, rfl, _, _, rfl, rfl, mul_big (by decide) (Nat.lt_trans bd (by decide)), fin⟩⟩⟩

abbrev s_law_told : Stmt := topS 72
abbrev N_law_told : List Str := ["_law_product"]
theorem sc_law_told : FnScope N_law_told ["_law_product"] (defScope s_law_told) := ⟨rfl, rfl, rfl, by decide +kernel, rfl, by decide +kernel, by decide +kernel⟩
/- [(0, '_law_product')] cells [] calls ['product_level', 'product_sign', 'product_weight', 'start_of'] -/

def Tld (ps : Pairs) : Prop := (∃ M, Fit M ps ∧ 1 ≤ M ∧ M ≤ 400) ∧ Sgn ps
theorem Tld.prod {ps : Pairs} (t : Tld ps) : IsProd ps := let ⟨⟨_, f, a, b⟩, _⟩ := t; f.prod a b
theorem Tld.whole {ps : Pairs} (t : Tld ps) : Whole ps := let ⟨⟨_, f, _, _⟩, _⟩ := t; f.whole
abbrev sp_law_told : Sp := SpF enP fun x H Q => PrT H x.1 x.2 ∧ Tld x.2 ∧ ∀ H' p, Same H H' → TolD H' p x.2 → Q (.ref p) H'
theorem ok_law_told (F : Fun K "_law_told" "_law_told" s_law_told f fd) (T : Bl mg) (h_start_of : Has P w K mg base 5 "start_of" ["product"] sp_raw_start) (h_product_weight : Has P w K mg base 5 "product_weight" ["product"] sp_raw_weight)
    (h_product_level : Has P w K mg base 5 "product_level" ["product"] sp_raw_level) (h_product_sign : Has P w K mg base 5 "product_sign" ["product"] sp_product_sign) : FnOk P w K mg base CX0 6 f fd ["_law_product"] sp_law_told := by
  refine okF F sc_law_told (fun _ => rfl) fun cdv A outer s H x Q E hr q => ?_
  refine ⟨_, (pss_one (ps_ret (pe_lst (pa_cons (pe_fn h_start_of (hr.mono (by decide)) (by rfl) (pa_cons (pv 0) pa_nil)) (pa_cons (pe_fn h_product_weight (hr.mono (by decide)) (by rfl) (pa_cons (pv 0) pa_nil)) (pa_cons (pe_fn h_product_level (hr.mono (by decide)) (by rfl) (pa_cons (pv 0) pa_nil)) (pa_cons (pe_fn h_product_sign (hr.mono (by decide)) (by rfl) (pa_cons (pv 0) pa_nil)) pa_nil))))))), ?_⟩
  obtain ⟨hp, t, q⟩ := q
  have hi := t.prod
  have hw := t.whole
  refine ⟨_, rfl, x, rfl, hp, hi, hw, fun H1 p1 s1 h1 => ⟨_, rfl, x, rfl, hp.same s1, hi, hw, fun H2 p2 s2 h2 => ⟨_, rfl, x, rfl, hp.same (s1.trans s2), t.1, fun H3 s3 => ⟨_, rfl, x, rfl, hp.same ((s1.trans s2).trans s3), hi, hw, t.2, fun H4 s4 => ⟨by show 4 ≤ sizeLine; decide, fun p np => ?_⟩⟩⟩⟩⟩
  have s5 := same_upd (o := .lst [.ref p1, .ref p2, .int (lvl x.2), .int (signM x.2)]) np
  exact q _ p ((((s1.trans s2).trans s3).trans s4).trans s5) ⟨p1, p2, upd_same, s5 _ _ (s4 _ _ (s3 _ _ (s2 _ _ h1))), s5 _ _ (s4 _ _ (s3 _ _ h2))⟩

abbrev s_law_due : Stmt := topS 73
abbrev N_law_due : List Str := ["_law_product", "_law_weight", "_law_start", "_law_d", "_law_r"]
theorem sc_law_due : FnScope N_law_due ["_law_product"] (defScope s_law_due) := ⟨rfl, rfl, rfl, by decide +kernel, rfl, by decide +kernel, by decide +kernel⟩
/- [(0, '_law_product'), (1, '_law_weight'), (2, '_law_start'), (3, '_law_d'), (4, '_law_r')] cells [] calls ['_law_level', '_law_product_sign'] -/

theorem ok_law_due (F : Fun K "_law_due" "_law_due" s_law_due f fd) (T : Bl mg) (h_law_level : Has P w K mg base 2 "_law_level" ["_law_product"] sp_raw_level) (h_law_product_sign : Has P w K mg base 1 "_law_product_sign" ["_law_product"] sp_law_product_sign) :
    FnOk P w K mg base CX0 3 f fd ["_law_product"] sp_law_told := by
  refine okF F sc_law_due (fun _ => rfl) fun cdv A outer s H x Q E hr q => ?_
  refine ⟨_, (pss_cons (ps_par (i := 1) (j := 2) (by rfl) sc_law_due.nd rfl rfl (by decide) rfl rfl (pa_cons (pe_op op_fdivW (pe_callB (cr_sum rfl) (by rfl) T.sum (by decide +kernel) (pa_cons (pe_lc (own := [("_law_d", 3), ("_law_r", 4)]) (g := (gTup K 2 (gCons (gName 3) (gCons (gName 4) gNil)))) rfl sc_law_due.nd (pi_tup (pv 0)) (blkOk_by (own := [("_law_d", 3), ("_law_r", 4)]) (N := N_law_due) (sc := defScope s_law_due) (by decide +kernel)) (fun _ _ _ _ _ => pg_tup rfl (pgs_cons (pg_name (i := 3) sc_law_due.nd rfl (Or.inl rfl)) (pgs_cons (pg_name (i := 4) sc_law_due.nd rfl (Or.inl rfl)) pgs_nil))) (fun _ _ _ _ _ => pts_nil) (fun _ _ _ _ _ => (pv 4))) pa_nil)) pe_int) (pa_cons (pe_op op_fdivW (pe_callB (cr_sum rfl) (by rfl) T.sum (by decide +kernel) (pa_cons (pe_lc (own := [("_law_d", 3), ("_law_r", 4)]) (g := (gTup K 2 (gCons (gName 3) (gCons (gName 4) gNil)))) rfl sc_law_due.nd (pi_tup (pv 0)) (blkOk_by (own := [("_law_d", 3), ("_law_r", 4)]) (N := N_law_due) (sc := defScope s_law_due) (by decide +kernel)) (fun _ _ _ _ _ => pg_tup rfl (pgs_cons (pg_name (i := 3) sc_law_due.nd rfl (Or.inl rfl)) (pgs_cons (pg_name (i := 4) sc_law_due.nd rfl (Or.inl rfl)) pgs_nil))) (fun _ _ _ _ _ => pts_nil) (fun _ _ _ _ _ => (pe_op op_mulW (pv 3) (pv 4)))) pa_nil)) pe_int) pa_nil)) (by rfl))
  (pss_one (ps_ret (pe_lst (pa_cons (pe_tup (pa_cons (pv 2) (pa_cons pe_int pa_nil))) (pa_cons (pe_tup (pa_cons (pv 1) (pa_cons pe_int pa_nil))) (pa_cons (pe_fn h_law_level (hr.mono (by decide)) (by rfl) (pa_cons (pv 0) pa_nil)) (pa_cons (pe_fn h_law_product_sign (hr.mono (by decide)) (by rfl) (pa_cons (pv 0) pa_nil)) pa_nil)))))))), ?_⟩
  obtain ⟨a, ps⟩ := x
  obtain ⟨hp, t, q⟩ := q
  have hp : PrT H a ps := hp
  have t : Tld ps := t
  have hi := t.prod
  have hw := t.whole
  have epow : (ps.map fun q => q.2).sum = powS ps := by
    have := S_map_sum (fun _ => 1) ps
    simpa using this
  have estep : (ps.map fun q => q.1 * q.2).sum = stepS ps := S_map_sum (fun d => d) ps
  refine ⟨_, rfl, a, rfl, hp.sqx, fun D hD => lc_pairs (K := K) hD (fun q => .int q.2) hp (len1000 hi) (fun _ _ => rfl) (fun q hq H2 R sm r => ⟨_, rfl, r⟩) fun H2 s2 hd => ?_⟩
  rw [map_int (f := fun q => q.2)] at hd
  refine ⟨D, _, rfl, SqL.of hd, _, _, rfl, rfl, div_ok (by decide) (by decide), ?_⟩
  have hp2 := hp.same s2
  refine ⟨_, rfl, a, rfl, hp2.sqx, fun D hD => lc_pairs (K := K) hD (fun q => .int (q.1 * q.2)) hp2 (len1000 hi) (fun _ _ => rfl) (fun q hq H3 R sm r => ?_) fun H3 s3 hd3 => ?_⟩
  · obtain ⟨d1, d2, d3, d4, d5⟩ := hi.2.2 q hq
    exact ⟨_, rfl, _, rfl, _, _, rfl, rfl, mul_ok (by omega) (by omega) (by omega) (by omega), r⟩
  rw [map_int (f := fun q => q.1 * q.2)] at hd3
  refine ⟨D, _, rfl, SqL.of hd3, _, _, rfl, rfl, div_ok (by decide) (by decide), _, _, rfl, ?_⟩
  rw [epow, estep]
  refine ⟨_, rfl, by show 2 ≤ sizeLine; decide, fun p1 n1 => ⟨_, rfl, by show 2 ≤ sizeLine; decide, fun p2 n2 => ?_⟩⟩
  have s4 := same_upd (o := .tup [.int (stepS ps / 24), .int 1]) n1
  have s5 := same_upd (o := .tup [.int (powS ps / 2), .int 1]) n2
  have s25 := ((s2.trans s3).trans s4).trans s5
  refine ⟨_, rfl, (a, ps), rfl, hp.same s25, t.1, fun H6 s6 => ⟨_, rfl, (a, ps), rfl, hp.same (s25.trans s6), hi, t.2, hw.1, fun H7 s7 => ⟨by show 4 ≤ sizeLine; decide, fun p np => ?_⟩⟩⟩
  have s8 := same_upd (o := .lst [.ref p1, .ref p2, .int (lvl ps), .int (signM ps)]) np
  exact q _ p (((s25.trans s6).trans s7).trans s8) ⟨p1, p2, upd_same, s8 _ _ (s7 _ _ (s6 _ _ (s5 _ _ upd_same))), s8 _ _ (s7 _ _ (s6 _ _ upd_same))⟩
end
end K24
/-! K24, D13: data shown as text; what is asked of joined products. -/
namespace K24
open PySem PySem.Spec PyProof.Rows L2

theorem un70 {u : Nat} (h : u + 16 * 0 + 200 < cLine) : u + 70 < cLine := by omega
/-! ### small data -/
structure Sd (n w : Nat) (d : PyData) : Prop where
  lay : d.canLay0 = true
  dep : d.depth ≤ n
  wt : d.weight ≤ w
  sh : d.intsShort 13 = true
  ok : d.showable = true
structure SdA (n w : Nat) (ds : List PyData) : Prop where
  lay : PyData.canLayAll0 ds = true
  dep : PyData.depthAll ds ≤ n
  wt : PyData.weightAll ds ≤ w
  sh : PyData.intsShortAll 13 ds = true
  ok : PyData.showableAll ds = true
theorem log_small {i : Int} (h : i.natAbs < 10 ^ 12) : i.natAbs.log2 < 40 := by
  by_cases z : i.natAbs = 0
  · rw [z]
    decide
  · exact (Nat.log2_lt z).mpr (Nat.lt_of_lt_of_le h (by decide))
theorem Sd.int {i : Int} (h : i.natAbs < 10 ^ 12) : Sd 0 40 (.int i) := by
  have l := log_small h
  refine ⟨rfl, Nat.le_refl _, ?_, ?_, ?_⟩
  · show (if i == 0 then 0 else i.natAbs.log2 + 1) ≤ 40
    split <;> omega
  · show decide _ = true
    exact decide_eq_true (PyData.shown_int_le h)
  · show decide _ = true
    exact decide_eq_true (by omega)
theorem SdA.nil {n : Nat} : SdA n 0 [] := ⟨rfl, Nat.zero_le _, Nat.le_refl _, rfl, rfl⟩
theorem SdA.cons {n w v : Nat} {d : PyData} {ds : List PyData} (a : Sd n w d) (b : SdA n v ds) : SdA n (w + 1 + v) (d :: ds) := by
  refine ⟨?_, Nat.max_le.mpr ⟨a.dep, b.dep⟩, ?_, ?_, ?_⟩
  · show (PyData.canLay0 d && PyData.canLayAll0 ds) = true
    rw [a.lay, b.lay]; rfl
  · show PyData.weight d + 1 + PyData.weightAll ds ≤ _
    have := a.wt; have := b.wt; omega
  · show (PyData.intsShort 13 d && PyData.intsShortAll 13 ds) = true
    rw [a.sh, b.sh]; rfl
  · show (PyData.showable d && PyData.showableAll ds) = true
    rw [a.ok, b.ok]; rfl
theorem SdA.list {n w : Nat} {ds : List PyData} (a : SdA n w ds) : Sd (n + 1) w (.list ds) := ⟨a.lay, Nat.add_le_add_right a.dep 1, a.wt, a.sh, a.ok⟩
theorem SdA.tup {n w : Nat} {ds : List PyData} (a : SdA n w ds) : Sd (n + 1) w (.tuple ds) := ⟨a.lay, Nat.add_le_add_right a.dep 1, a.wt, a.sh, a.ok⟩
theorem Sd.up {n m w v : Nat} {d : PyData} (a : Sd n w d) (h : n ≤ m) (k : w ≤ v) : Sd m v d := ⟨a.lay, Nat.le_trans a.dep h, Nat.le_trans a.wt k, a.sh, a.ok⟩
theorem Sd.lite {n w : Nat} {d : PyData} (a : Sd n w d) (h : n ≤ 64) (k : w ≤ 2 ^ 20) : Lite d := ⟨by
  show (PyData.canLay0 d && decide (PyData.depth d ≤ 64) && decide (PyData.weight d ≤ 2 ^ 20)) = true
  rw [a.lay, decide_eq_true (Nat.le_trans a.dep h), decide_eq_true (Nat.le_trans a.wt k)]; rfl, a.sh, a.ok⟩
theorem Lite.shaped {d : PyData} (l : Lite d) : SeqAt.shaped d = true := SeqAt.shaped_of_layable l.1
theorem Lite.same {d : PyData} (l : Lite d) : PyData.eqv d d = true := SeqAt.eqv_refl d (SeqAt.canLay_of_shaped l.shaped)

/-! ### our data -/
def tD (q : Int × Int) : PyData := .tuple [.int q.1, .int q.2]
def pD (ps : Pairs) : PyData := .tuple (ps.map tD)
def toldD (ps : Pairs) : PyData := .list [tD (stepS ps / 24, 1), tD (powS ps / 2, 1), .int (lvl ps), .int (signM ps)]
theorem dp_tp {K : PySem.W.Frag} {H : Hp} {p : Addr} {q : Int × Int} (h : H p = some (tp q)) : Dp K H (.ref p) (tD q) := .tup (SqT.of h) (.cons (.int _) (.cons (.int _) .nil))
theorem dp_pr {K : PySem.W.Frag} {H : Hp} {p : Addr} {ps : Pairs} (h : PrT H p ps) : Dp K H (.ref p) (pD ps) := let ⟨_, ha, hp⟩ := h; .tup (.inl ha) (dp_prs hp)
theorem dp_told {K : PySem.W.Frag} {H : Hp} {p : Addr} {ps : Pairs} (h : TolD H p ps) : Dp K H (.ref p) (toldD ps) := let ⟨_, _, a, b, c⟩ := h; .lst (SqL.of a) (.cons (dp_tp b) (.cons (dp_tp c) (.cons (.int _) (.cons (.int _) .nil))))
/-- an int that is small enough -/
def sI (i : Int) : Prop := i.natAbs < 10 ^ 12
theorem sd_tp {q : Int × Int} (h1 : sI q.1) (h2 : sI q.2) : Sd 1 82 (tD q) := (SdA.cons (Sd.int h1) (SdA.cons (Sd.int h2) SdA.nil)).tup
theorem sd_pairs : ∀ {ps : Pairs}, (∀ q ∈ ps, sI q.1 ∧ sI q.2) → SdA 1 (83 * ps.length) (ps.map tD)
  | [], _ => SdA.nil
  | q :: r, h => by
    have a := h q List.mem_cons_self
    have := SdA.cons (sd_tp a.1 a.2) (sd_pairs (ps := r) fun x hx => h x (List.mem_cons_of_mem _ hx))
    rw [show 82 + 1 + 83 * r.length = 83 * (q :: r).length by rw [List.length_cons]; omega] at this
    exact this
theorem sd_pr {ps : Pairs} (h : IsProd ps) : Sd 2 664 (pD ps) := (sd_pairs fun q hq => by
  have := h.2.2 q hq
  have p : (400 : Nat) < 10 ^ 12 := by decide
  unfold sI
  omega).tup.up (Nat.le_refl _) (by have := h.1; omega)
/-- the bounds of what is told -/
structure Bd (ps : Pairs) : Prop where
  step : sI (stepS ps / 24)
  pow : sI (powS ps / 2)
  lv : sI (lvl ps)
  sg : sI (signM ps)
theorem S_bd {f : Int → Int} {B : Int} : ∀ {ps : Pairs}, (∀ q ∈ ps, -B ≤ f q.1 * q.2 ∧ f q.1 * q.2 ≤ B) → -(B * ps.length) ≤ S f ps ∧ S f ps ≤ B * ps.length
  | [], _ => by simp [S]
  | q :: r, h => by
    have a := h q List.mem_cons_self
    have b := S_bd (ps := r) fun x hx => h x (List.mem_cons_of_mem _ hx)
    have e : S f (q :: r) = f q.1 * q.2 + S f r := rfl
    have e2 : B * ((q :: r).length : Nat) = B + B * (r.length : Nat) := by
      rw [List.length_cons, Int.natCast_add, Int.mul_add]
      omega
    omega
theorem mul_bd {d r : Int} (h1 : 1 ≤ d) (h2 : d ≤ 400) (h3 : -48 ≤ r) (h4 : r ≤ 48) : -19200 ≤ d * r ∧ d * r ≤ 19200 := by
  have a : d * r ≤ d * 48 := Int.mul_le_mul_of_nonneg_left h4 (by omega)
  have b : d * (-48) ≤ d * r := Int.mul_le_mul_of_nonneg_left h3 (by omega)
  omega
theorem IsProd.bd {ps : Pairs} (h : IsProd ps) : (-153600 ≤ stepS ps ∧ stepS ps ≤ 153600) ∧ (-384 ≤ powS ps ∧ powS ps ≤ 384) := by
  have l := h.1
  refine ⟨?_, ?_⟩
  · have := S_bd (f := fun d => d) (B := 19200) (ps := ps) fun q hq => by
      have k := h.2.2 q hq
      exact mul_bd k.1 k.2.1 k.2.2.1 k.2.2.2.1
    have e : stepS ps = S (fun d => d) ps := rfl
    omega
  · have := S_bd (f := fun _ => 1) (B := 48) (ps := ps) fun q hq => by
      have k := h.2.2 q hq
      omega
    have e : powS ps = S (fun _ => 1) ps := rfl
    omega
theorem Bd.of {N : Int} {ps : Pairs} (h1 : 1 ≤ N) (h2 : N ≤ 400) (f : Fit N ps) (s : signOkB (signM ps) = true) : Bd ps := by
  have b := (f.prod h1 h2).bd
  obtain ⟨l1, l2, l3⟩ := lvl_fits fun q hq => (f.dv q hq).1
  have l4 : lvl ps ≤ N := Int.le_of_dvd (by omega) (Int.dvd_of_emod_eq_zero f.lvl_dvd)
  have s2 := signOk_le s
  have p : (153600 : Nat) < 10 ^ 12 := by decide
  refine ⟨?_, ?_, ?_, ?_⟩ <;> unfold sI <;> omega
theorem one_sI : sI 1 := by unfold sI; decide
theorem sd_told {ps : Pairs} (b : Bd ps) : Sd 2 300 (toldD ps) :=
  (SdA.cons (sd_tp b.step one_sI) (SdA.cons (sd_tp b.pow one_sI) (SdA.cons ((Sd.int b.lv).up (Nat.zero_le _) (Nat.le_refl _)) (SdA.cons ((Sd.int b.sg).up (Nat.zero_le _) (Nat.le_refl _)) SdA.nil)))).list.up (Nat.le_refl _) (by decide)
theorem sgn_of {N : Int} {ps : Pairs} (h1 : 1 ≤ N) (h2 : N ≤ 24) (d : Dv N ps) : Sgn ps := fun q hq => by
  obtain ⟨a, b⟩ := d q hq
  have c := PP_of (t := 1) h1 h2 (by decide) (by decide)
  rw [Int.mul_one] at c
  have l := Int.le_of_dvd (by omega) (Int.dvd_of_emod_eq_zero b)
  exact ⟨a, by omega, mod_trans c b⟩
section
variable {P : Program} {w : World} {K : PySem.W.Frag} {mg : Str → Option Value} {base : Heap} {f : Addr} {fd : FuncData}

abbrev s_law_same : Stmt := topS 65
abbrev N_law_same : List Str := ["_law_told_here", "_law_due_here"]
theorem sc_law_same : FnScope N_law_same ["_law_told_here", "_law_due_here"] (defScope s_law_same) := ⟨rfl, rfl, rfl, by decide +kernel, rfl, by decide +kernel, by decide +kernel⟩
/- [(0, '_law_told_here'), (1, '_law_due_here')] cells [] calls [] -/

abbrev sp_law_same (K : PySem.W.Frag) : Sp := SpF (fun x : Addr × Addr × PyData => [.ref x.1, .ref x.2.1]) fun x H Q => Dp K H (.ref x.1) x.2.2 ∧ Dp K H (.ref x.2.1) x.2.2 ∧ Lite x.2.2 ∧ Q (.bl true) H
theorem ok_law_same (F : Fun K "_law_same" "_law_same" s_law_same f fd) (T : Bl mg) : FnOkG P w K mg base 1 f fd ["_law_told_here", "_law_due_here"] (sp_law_same K) := by
  refine okG F sc_law_same (fun _ => rfl) fun cdv A outer s H x Q E hgd hr q => ?_
  refine ⟨_, (pss_one (ps_ret (pe_cmpR op_eq (pe_callB (call_reprD hgd (un70 hr.un)) (by rfl) T.repr (by decide +kernel) (pa_cons (pv 0) pa_nil)) (pe_callB (call_reprD hgd (un70 hr.un)) (by rfl) T.repr (by decide +kernel) (pa_cons (pv 1) pa_nil)) (nomark _)))), ?_⟩
  obtain ⟨a, b, d⟩ := x
  obtain ⟨ha, hb, l, q⟩ := q
  refine ⟨_, rfl, a, d, rfl, ha, l, _, rfl, b, d, rfl, hb, l, ?_⟩
  refine ⟨rfl, ?_⟩
  show Q (.bl (decide (V.str d.shown = V.str d.shown))) H
  rw [decide_eq_true rfl]
  exact q

abbrev s_law_are_joined_right : Stmt := topS 74
abbrev N_law_are_joined_right : List Str := ["_law_one", "_law_other", "_law_level_here", "_law_both", "_law_near", "_law_far", "_law_told_here", "_law_least", "_law_due_here"]
theorem sc_law_are_joined_right : FnScope N_law_are_joined_right ["_law_one", "_law_other", "_law_level_here"] (defScope s_law_are_joined_right) := ⟨rfl, rfl, rfl, by decide +kernel, rfl, by decide +kernel, by decide +kernel⟩
/- [(0, '_law_one'), (1, '_law_other'), (2, '_law_level_here'), (3, '_law_both'), (4, '_law_near'), (5, '_law_far'), (6, '_law_told_here'), (7, '_law_least'), (8, '_law_due_here')] cells [] calls ['_law_divisor', '_law_due', '_law_joined', '_law_same', '_law_told', 'does_fit', 'joined_product', 'joined_sign'] -/

abbrev enJ (x : (Addr × Pairs) × (Addr × Pairs) × Int) : List V := [.ref x.1.1, .ref x.2.1.1, .int x.2.2]
abbrev sp_joined_right : Sp := SpF enJ fun x H Q => PrD H x.1.1 x.1.2 ∧ PrT H x.2.1.1 x.2.1.2 ∧ 1 ≤ x.2.2 ∧ x.2.2 ≤ 24 ∧ GoodP x.2.2 x.1.2 ∧ GoodP x.2.2 x.2.1.2 ∧ ∀ H', Same H H' → Q (.bl true) H'
/-- f(q = b, p = a) of def f(p, q) -/
def gQ {α : Type} : List α → List α → List α
  | [], [b, a] => [a, b]
  | _, _ => []
abbrev gV2 : List V → List V → List V := gQ
theorem ok_law_are_joined_right (F : Fun K "_law_are_joined_right" "_law_are_joined_right" s_law_are_joined_right f fd) (T : Bl mg) (hk_joined_product : HasK P w K mg base 5 "joined_product" ["one", "other"] ["other", "one"] gV2 sp_joined_product)
    (h_law_same : HasG P w K mg base 1 "_law_same" ["_law_told_here", "_law_due_here"] (sp_law_same K)) (h_law_joined : Has P w K mg base 1 "_law_joined" ["_law_one", "_law_other"] sp_law_joined) (h_does_fit : Has P w K mg base 5 "does_fit" ["product", "level"] sp_does_fit)
    (h_law_told : Has P w K mg base 6 "_law_told" ["_law_product"] sp_law_told) (h_law_due : Has P w K mg base 3 "_law_due" ["_law_product"] sp_law_told) (h_law_divisor : Has P w K mg base 1 "_law_divisor" ["_law_one", "_law_other"] sp_law_divisor)
    (h_joined_sign : Has P w K mg base 5 "joined_sign" ["one", "other"] sp_joined_sign) : FnOkG P w K mg base 7 f fd ["_law_one", "_law_other", "_law_level_here"] sp_joined_right := by
  refine okG F sc_law_are_joined_right (fun _ => rfl) fun cdv A outer s H x Q E hgd hr q => ?_
  refine ⟨_, (pss_cons (ps_set (i := 3) sc_law_are_joined_right.nd rfl (.inl rfl) (pe_fnk hk_joined_product (hr.mono (by decide)) (by rfl) (pk_cons (pv 1) (pk_cons (pv 0) pk_nil))))
  (pss_cons (ps_if (PW.pt (pw_or (pt_not (pt_val (pe_fnG h_law_same hgd (hr.mono (by decide)) (by rfl) (pa_cons (pv 3) (pa_cons (pe_fn h_law_joined (hr.mono (by decide)) (by rfl) (pa_cons (pv 0) (pa_cons (pv 1) pa_nil))) pa_nil))))) (pw_or1 (pt_cmpR op_notBl (pe_fn h_does_fit (hr.mono (by decide)) (by rfl) (pa_cons (pv 3) (pa_cons (pv 2) pa_nil))) pe_bl (nomark _)))))
    (pss_one (ps_ret pe_bl))
    pss_nil)
  (pss_cons (ps_par3 (i := 4) (j := 5) (l := 6) (by rfl) sc_law_are_joined_right.nd rfl rfl rfl (by decide) (by decide) (by decide) rfl rfl rfl (pa_cons (pe_fn h_law_told (hr.mono (by decide)) (by rfl) (pa_cons (pv 0) pa_nil)) (pa_cons (pe_fn h_law_told (hr.mono (by decide)) (by rfl) (pa_cons (pv 1) pa_nil)) (pa_cons (pe_fn h_law_told (hr.mono (by decide)) (by rfl) (pa_cons (pv 3) pa_nil)) pa_nil))) (by rfl))
  (pss_cons (ps_if (pt_cmpR (op_neD hr.units) (pe_lst (pa_cons (pv 4) (pa_cons (pv 5) (pa_cons (pv 6) pa_nil)))) (pe_lst (pa_cons (pe_fn h_law_due (hr.mono (by decide)) (by rfl) (pa_cons (pv 0) pa_nil)) (pa_cons (pe_fn h_law_due (hr.mono (by decide)) (by rfl) (pa_cons (pv 1) pa_nil)) (pa_cons (pe_fn h_law_due (hr.mono (by decide)) (by rfl) (pa_cons (pv 3) pa_nil)) pa_nil)))) (nomark _))
    (pss_one (ps_ret pe_bl))
    pss_nil)
  (pss_cons (ps_set (i := 7) sc_law_are_joined_right.nd rfl (.inl rfl) (pe_op op_mulW (pe_op op_fdivW (pe_ix ix_list (pv 4) pe_int (fun _ _ => rfl)) (pe_fn h_law_divisor (hr.mono (by decide)) (by rfl) (pa_cons (pe_ix ix_list (pv 4) pe_int (fun _ _ => rfl)) (pa_cons (pe_ix ix_list (pv 5) pe_int (fun _ _ => rfl)) pa_nil)))) (pe_ix ix_list (pv 5) pe_int (fun _ _ => rfl))))
  (pss_cons (ps_set (i := 8) sc_law_are_joined_right.nd rfl (.inl rfl) (pe_lst (pa_cons (pe_tup (pa_cons (pe_op op_add (pe_ix ix_tup (pe_ix ix_list (pv 4) pe_int (fun _ _ => rfl)) pe_int (fun _ _ => rfl)) (pe_ix ix_tup (pe_ix ix_list (pv 5) pe_int (fun _ _ => rfl)) pe_int (fun _ _ => rfl))) (pa_cons pe_int pa_nil))) (pa_cons (pe_tup (pa_cons (pe_op op_add (pe_ix ix_tup (pe_ix ix_list (pv 4) pe_int (fun _ _ => rfl)) pe_int (fun _ _ => rfl)) (pe_ix ix_tup (pe_ix ix_list (pv 5) pe_int (fun _ _ => rfl)) pe_int (fun _ _ => rfl))) (pa_cons pe_int pa_nil))) (pa_cons (pe_fn h_joined_sign (hr.mono (by decide)) (by rfl) (pa_cons (pe_ix ix_list (pv 4) pe_int (fun _ _ => rfl)) (pa_cons (pe_ix ix_list (pv 5) pe_int (fun _ _ => rfl)) pa_nil))) pa_nil)))))
  (pss_one (ps_ret (pe_and (pe_fnG h_law_same hgd (hr.mono (by decide)) (by rfl) (pa_cons (pe_lst (pa_cons (pe_ix ix_list (pv 6) pe_int (fun _ _ => rfl)) (pa_cons (pe_ix ix_list (pv 6) pe_int (fun _ _ => rfl)) (pa_cons (pe_ix ix_list (pv 6) pe_int (fun _ _ => rfl)) pa_nil)))) (pa_cons (pv 8) pa_nil))) (pe_and (pe_cmpR op_eq (pe_op op_mod (pe_callTy call_int1 (by rfl) T.int (by decide +kernel) (pa_cons (pv 7) pa_nil)) (pe_ix ix_list (pv 6) pe_int (fun _ _ => rfl))) pe_int (nomark _)) (pe_one (pe_cmpR op_eq (pe_op op_mod (pe_callTy call_int1 (by rfl) T.int (by decide +kernel) (pa_cons (pv 2) pa_nil)) (pv 7)) pe_int (nomark _))))))))))))), ?_⟩
  obtain ⟨⟨a, ps⟩, ⟨b, qs⟩, N⟩ := x
  obtain ⟨hp, hq, n1, n2, gp, gq, qQ⟩ := q
  have hp : PrD H a ps := hp
  have hq : PrT H b qs := hq
  have n1 : 1 ≤ N := n1
  have n2 : N ≤ 24 := n2
  have gp : GoodP N ps := gp
  have gq : GoodP N qs := gq
  have n4 : N ≤ 400 := by omega
  have ip := gp.fit.prod n1 n4
  have iq := gq.fit.prod n1 n4
  have fj := fun js (j : Joined ps qs js) => Joined.fit n1 n2 gp gq j
  refine ⟨_, rfl, _, rfl, ((a, ps), (b, qs)), rfl, hp.t, ip, hq, iq, fun js j => (fj js j).prod n1 n4, fun H1 p js s1 j h1 => ?_⟩
  have ij := (fj js j).prod n1 n4
  refine ⟨_, rfl, _, rfl, _, rfl, ((a, ps), (b, qs)), rfl, hp.same s1, ip, hq.same s1, iq, fun H2 p2 js2 s2 j2 h2 => ?_⟩
  obtain rfl := j.unique j2
  refine ⟨(p, p2, pD js), rfl, dp_pr (h1.same s2), dp_pr h2, (sd_pr ij).lite (by decide) (by decide), ?_⟩
  refine ⟨_, rfl, iteF ?_⟩
  refine ⟨_, rfl, _, rfl, ((p, js), N), rfl, h1.same s2, fj js j, n1, n4, fun H3 s3 => ⟨true, true, rfl, rfl, _, rfl, iteF ?_⟩⟩
  have s03 := (s1.trans s2).trans s3
  have tp' : Tld ps := ⟨⟨N, gp.fit, n1, n4⟩, sgn_of n1 n2 gp.fit.dv⟩
  have tq' : Tld qs := ⟨⟨N, gq.fit, n1, n4⟩, sgn_of n1 n2 gq.fit.dv⟩
  have tj' : Tld js := ⟨⟨N, fj js j, n1, n4⟩, sgn_of n1 n2 (fj js j).dv⟩
  refine ⟨_, rfl, (a, ps), rfl, hp.t.same s03, tp', fun H4 e1 s4 t1 => ⟨_, rfl, (b, qs), rfl, hq.same (s03.trans s4), tq', fun H5 e2 s5 t2 => ⟨_, rfl, (p, js), rfl, h1.same (((s2.trans s3).trans s4).trans s5), tj', fun H6 e3 s6 t3 => ?_⟩⟩⟩
  have t1 : TolD H4 e1 ps := t1
  have t2 : TolD H5 e2 qs := t2
  have t3 : TolD H6 e3 js := t3
  have s06 := ((s03.trans s4).trans s5).trans s6
  have t1 := t1.same (s5.trans s6)
  have t2 := t2.same s6
  have h16 := h1.same ((((s2.trans s3).trans s4).trans s5).trans s6)
  clear h2 s1 s2 s3 s03 s4 s5 s6 h1
  refine ⟨_, _, _, rfl, _, rfl, _, rfl, _, rfl, by show 3 ≤ sizeLine; decide, fun l1 m1 => ?_⟩
  have u1 := same_upd (o := .lst [.ref e1, .ref e2, .ref e3]) m1
  have d1 : upd H6 l1 (.lst [.ref e1, .ref e2, .ref e3]) l1 = _ := upd_same
  generalize upd H6 l1 (.lst [.ref e1, .ref e2, .ref e3]) = H7 at *
  have s07 := s06.trans u1
  refine ⟨_, rfl, (a, ps), rfl, hp.t.same s07, tp', fun H8 f1 s8 w1 => ⟨_, rfl, (b, qs), rfl, hq.same (s07.trans s8), tq', fun H9 f2 s9 w2 => ⟨_, rfl, (p, js), rfl, h16.same ((u1.trans s8).trans s9), tj', fun H10 f3 s10 w3 => ⟨by show 3 ≤ sizeLine; decide, fun l2 m2 => ?_⟩⟩⟩⟩
  have w1 : TolD H8 f1 ps := w1
  have w2 : TolD H9 f2 qs := w2
  have w3 : TolD H10 f3 js := w3
  have u2 := same_upd (o := .lst [.ref f1, .ref f2, .ref f3]) m2
  have d2 : upd H10 l2 (.lst [.ref f1, .ref f2, .ref f3]) l2 = _ := upd_same
  generalize upd H10 l2 (.lst [.ref f1, .ref f2, .ref f3]) = H11 at *
  have s7 := ((s8.trans s9).trans s10).trans u2
  obtain ⟨sg1, sg2, r, rf, rn⟩ := signs_joined n1 n2 gp.fit.dv gq.fit.dv gp.fit.ev gq.fit.ev j.sums
  have sg3 : signOkB (signM js) = true := (signs_joined n1 n2 (fj js j).dv (fj js j).dv (fj js j).ev (fj js j).ev (js := js ++ js) fun f => S_append f js js).1
  have b1 := Bd.of n1 n4 gp.fit sg1
  have b2 := Bd.of n1 n4 gq.fit sg2
  have b3 := Bd.of n1 n4 (fj js j) sg3
  have ld : Lite (.list [toldD ps, toldD qs, toldD js]) := (SdA.cons (sd_told b1) (SdA.cons (sd_told b2) (SdA.cons (sd_told b3) SdA.nil))).list.lite (by decide) (by decide)
  have s6 := u1.trans s7
  refine ⟨.list [toldD ps, toldD qs, toldD js], .list [toldD ps, toldD qs, toldD js], .lst (SqL.of (s7 _ _ d1)) (.cons (dp_told (t1.same s6)) (.cons (dp_told (t2.same s6)) (.cons (dp_told (t3.same s6)) .nil))),
    .lst (SqL.of d2) (.cons (dp_told (w1.same ((s9.trans s10).trans u2))) (.cons (dp_told (w2.same (s10.trans u2))) (.cons (dp_told (w3.same u2)) .nil))), ld.shaped, ld.shaped, ?_⟩
  rw [ld.same]
  refine ⟨_, rfl, iteF ?_⟩
  obtain ⟨v1, v2, v3, v4, v5, v6⟩ := Joined.level gp.fit gq.fit j
  have t1 := t1.same s6
  have t2 := t2.same s6
  have t3 := t3.same s6
  have s11 := s06.trans s6
  clear w1 w2 w3 ld u1 u2 s7 s8 s9 s10 s6 s06 s07 d1 d2
  obtain ⟨x1, y1, a1, a2, a3⟩ := t1
  obtain ⟨x2, y2, c1, c2, c3⟩ := t2
  obtain ⟨x3, y3, g1, g2, g3⟩ := t3
  have L1 : lvl ps ≤ N := Int.le_of_dvd (by omega) (Int.dvd_of_emod_eq_zero gp.fit.lvl_dvd)
  have L2 : lvl qs ≤ N := Int.le_of_dvd (by omega) (Int.dvd_of_emod_eq_zero gq.fit.lvl_dvd)
  have g0 : 0 < gcI (lvl ps) (lvl qs) := gcI_pos (.inl (by omega))
  obtain ⟨_, g5, _, _, _⟩ := norm_frac (x := lvl ps) (y := lvl qs) (by omega)
  obtain ⟨z1, z2⟩ := div_small (n := lvl ps) (q := gcI (lvl ps) (lvl qs)) (B := 400) (by omega) (by decide) (by omega) (by omega)
  refine ⟨_, rfl, e1, _, 2, _, rfl, rfl, SqL.of a1, rfl, _, rfl, e1, _, 2, _, rfl, rfl, SqL.of a1, rfl, _, rfl, e2, _, 2, _, rfl, rfl, SqL.of c1, rfl, (lvl ps, lvl qs), rfl, _, _, rfl, rfl, div_ok g0 (by show gcI (lvl ps) (lvl qs) ≤ _; omega), _, rfl, e2, _, 2, _, rfl, rfl, SqL.of c1, rfl,
    _, _, rfl, rfl, (show CMulW (lvl ps / gcI (lvl ps) (lvl qs)) (lvl qs) from mul_ok (by omega) (by omega) (by omega) (by omega)), ?_⟩
  have B1 := ip.bd
  have B2 := iq.bd
  have B3 := ij.bd
  refine ⟨_, rfl, e1, _, 0, _, rfl, rfl, SqL.of a1, rfl, x1, _, 0, _, rfl, rfl, SqT.of a2, rfl, _, rfl, e2, _, 0, _, rfl, rfl, SqL.of c1, rfl, x2, _, 0, _, rfl, rfl, SqT.of c2, rfl, _, _, rfl, rfl, by show 2 ≤ sizeLine; decide, fun o1 i1 => ?_⟩
  have u1 := same_upd (o := .tup [.int (stepS ps / 24 + stepS qs / 24), .int 1]) i1
  have h1 : upd H11 o1 (.tup [.int (stepS ps / 24 + stepS qs / 24), .int 1]) o1 = some (tp (stepS ps / 24 + stepS qs / 24, 1)) := upd_same
  generalize upd H11 o1 (.tup [.int (stepS ps / 24 + stepS qs / 24), .int 1]) = H12 at *
  refine ⟨_, rfl, e1, _, 1, _, rfl, rfl, SqL.of (u1 _ _ a1), rfl, y1, _, 0, _, rfl, rfl, SqT.of (u1 _ _ a3), rfl, _, rfl, e2, _, 1, _, rfl, rfl, SqL.of (u1 _ _ c1), rfl, y2, _, 0, _, rfl, rfl, SqT.of (u1 _ _ c3), rfl, _, _, rfl, rfl, by show 2 ≤ sizeLine; decide, fun o2 i2 => ?_⟩
  have u2 := same_upd (o := .tup [.int (powS ps / 2 + powS qs / 2), .int 1]) i2
  have h2 : upd H12 o2 (.tup [.int (powS ps / 2 + powS qs / 2), .int 1]) o2 = some (tp (powS ps / 2 + powS qs / 2, 1)) := upd_same
  generalize upd H12 o2 (.tup [.int (powS ps / 2 + powS qs / 2), .int 1]) = H13 at *
  have u12 := u1.trans u2
  refine ⟨_, rfl, e1, _, 3, _, rfl, rfl, SqL.of (u12 _ _ a1), rfl, _, rfl, e2, _, 3, _, rfl, rfl, SqL.of (u12 _ _ c1), rfl, (signM ps, signM qs, r), rfl, sg1, sg2, rf, fun H14 u3 => ⟨by show 3 ≤ sizeLine; decide, fun o3 i3 => ?_⟩⟩
  have rn : nrm (signM ps, signM qs, r).2.2 = signM js := rn
  rw [rn]
  have u4 := same_upd (o := .lst [.ref o1, .ref o2, .int (signM js)]) i3
  have h3 : upd H14 o3 (.lst [.ref o1, .ref o2, .int (signM js)]) o3 = _ := upd_same
  generalize upd H14 o3 (.lst [.ref o1, .ref o2, .int (signM js)]) = H15 at *
  have u14 := (u12.trans u3).trans u4
  have k1 := u14 _ _ g1
  refine ⟨_, rfl, e3, _, 0, _, rfl, rfl, SqL.of k1, rfl, _, rfl, e3, _, 1, _, rfl, rfl, SqL.of k1, rfl, _, rfl, e3, _, 3, _, rfl, rfl, SqL.of k1, rfl, by show 3 ≤ sizeLine; decide, fun o4 i4 => ?_⟩
  have u5 := same_upd (o := .lst [.ref x3, .ref y3, .int (signM js)]) i4
  have h4 : upd H15 o4 (.lst [.ref x3, .ref y3, .int (signM js)]) o4 = _ := upd_same
  generalize upd H15 o4 (.lst [.ref x3, .ref y3, .int (signM js)]) = H16 at *
  have e24 : stepS ps / 24 + stepS qs / 24 = stepS js / 24 := by
    have a : stepS js = stepS ps + stepS qs := j.sums fun d => d
    have b := gp.fit.st
    have c := gq.fit.st
    omega
  have ep2 : powS ps / 2 + powS qs / 2 = powS js / 2 := by
    have a : powS js = powS ps + powS qs := j.sums fun _ => 1
    have b := gp.fit.ev
    have c := gq.fit.ev
    omega
  rw [e24] at h1
  rw [ep2] at h2
  have v14 := u14.trans u5
  refine ⟨_, rfl, (o4, o3, .list [tD (stepS js / 24, 1), tD (powS js / 2, 1), .int (signM js)]), rfl,
    .lst (SqL.of h4) (.cons (dp_tp (v14 _ _ g2)) (.cons (dp_tp (v14 _ _ g3)) (.cons (.int _) .nil))),
    .lst (SqL.of (u5 _ _ h3)) (.cons (dp_tp (u5 _ _ (u4 _ _ (u3 _ _ (u2 _ _ h1))))) (.cons (dp_tp (u5 _ _ (u4 _ _ (u3 _ _ h2)))) (.cons (.int _) .nil))),
    (SdA.cons (sd_tp b3.step one_sI) (SdA.cons (sd_tp b3.pow one_sI) (SdA.cons ((Sd.int b3.sg).up (Nat.zero_le _) (Nat.le_refl _)) SdA.nil))).list.lite (by decide) (by decide), true, rfl, iteT ?_⟩
  have z5 : lcm1 (lvl ps) (lvl qs) = lvl ps / gcI (lvl ps) (lvl qs) * lvl qs := rfl
  refine ⟨_, rfl, .inl ⟨_, rfl, _, rfl, e3, _, 2, _, rfl, rfl, SqL.of (v14 _ _ g1), rfl, _, _, rfl, rfl, (show 0 < lvl js by omega), rfl, _, rfl, iT (vEq v4) ?_⟩⟩
  refine ⟨_, rfl, .inl ⟨_, rfl, _, rfl, _, _, rfl, rfl, (show 0 < lcm1 (lvl ps) (lvl qs) by omega), rfl, ?_⟩⟩
  show Q (.bl (decide (V.int (N % lcm1 (lvl ps) (lvl qs)) = V.int 0))) H16
  rw [decide_eq_true (vEq v5)]
  exact qQ _ (s11.trans v14)
end
end K24
/-! K24, D14: what is asked of the other products; the law. -/
namespace K24
open PySem PySem.Spec PyProof.Rows L2
theorem stb_rev {α : Type} {lt : α → α → Bool} (O : SrtO.Swo lt) : ∀ {A : List α}, A.Pairwise (fun x y => lt y x = true) → SrtO.Stb lt A.reverse A
  | [], _ => SrtO.Stb.refl []
  | a :: r, h => by
    obtain ⟨h1, h2⟩ := List.pairwise_cons.mp h
    rw [List.reverse_cons]
    exact (SrtO.Stb.swap O (A := r.reverse) (B := [a]) fun x hx y hy => by
      rw [List.mem_singleton.mp hy]
      exact h1 x (List.mem_reverse.mp hx)).trans (SrtO.Stb.app (SrtO.Stb.refl [a]) (stb_rev O h2))
/-- the pair of ints at a ref -/
def kH (H : Hp) : V → Int × Int
  | .ref t => match H t with
    | some (.tup [.int i, .int j]) => (i, j)
    | _ => (0, 0)
  | _ => (0, 0)
theorem kH_at {H : Hp} {t : Addr} {q : Int × Int} (h : H t = some (tp q)) : kH H (.ref t) = q := by
  have h' : H t = some (.tup [.int q.1, .int q.2]) := h
  simp [kH, h']
theorem desc_refs {H : Hp} : ∀ {bs : List Addr} {qs : Pairs}, Prs H bs qs → qs.Pairwise (fun x y => y.1 < x.1) → (bs.map V.ref).Pairwise fun x y => ltP (kH H) y x = true
  | _, _, .nil, _ => List.Pairwise.nil
  | _, _, .cons r t, h => by
    obtain ⟨h1, h2⟩ := List.pairwise_cons.mp h
    refine List.pairwise_cons.mpr ⟨fun y hy => ?_, desc_refs t h2⟩
    obtain ⟨b, hb, rfl⟩ := List.mem_map.mp hy
    obtain ⟨q, hq, e⟩ := Paired.mem t hb
    refine SrtO.lexB_iff.mpr (.inl ?_)
    rw [kH_at r, kH_at e]
    exact h1 q hq
/-- sorted, of pairs that go down -/
theorem sorted_down {H : Hp} {bs : List Addr} {qs : Pairs} {ys : List V} (h : Prs H bs qs) (d : qs.Pairwise (fun x y => y.1 < x.1)) (s : SrtO.Srtd (ltP (kH H)) ys) (t : SrtO.Stb (ltP (kH H)) ys (bs.map V.ref)) : ys = bs.reverse.map V.ref := by
  have p := desc_refs h d
  have O := ltP_swo (kH H)
  rw [List.map_reverse]
  refine SrtO.stb_uniq O s ?_ (t.trans ⟨(stb_rev O p).perm.symm, fun x => ((stb_rev O p).cls x).symm⟩)
  refine List.pairwise_reverse.mpr (p.imp fun {x y} z => ?_)
  exact O.asym _ _ z
section
variable {P : Program} {w : World} {K : PySem.W.Frag} {mg : Str → Option Value} {base : Heap} {f : Addr} {fd : FuncData}

abbrev s_law_are_others_right : Stmt := topS 75
abbrev N_law_are_others_right : List Str := ["_law_product", "_law_level_here", "_law_t", "_law_start", "_law_weight", "_law_least", "_law_sign", "_law_back", "_law_turned", "_law_due_here", "_law_first", "_law_told_here", "_law_far", "_law_d", "_law_r"]
theorem sc_law_are_others_right : FnScope N_law_are_others_right ["_law_product", "_law_level_here", "_law_t"] (defScope s_law_are_others_right) := ⟨rfl, rfl, rfl, by decide +kernel, rfl, by decide +kernel, by decide +kernel⟩
/- [(0, '_law_product'), (1, '_law_level_here'), (2, '_law_t'), (3, '_law_start'), (4, '_law_weight'), (5, '_law_least'), (6, '_law_sign'), (7, '_law_back'), (8, '_law_turned'), (9, '_law_due_here'), (10, '_law_first'), (11, '_law_told_here'), (12, '_law_far'), (13, '_law_d'), (14, '_law_r')] cells ['_law_level_here'] calls ['_law_same', '_law_told', 'does_fit', 'order_at', 'product_level', 'product_sign', 'product_weight', 'spread_product', 'start_of', 'turned_product', 'undone_product'] -/

abbrev enO (x : (Addr × Pairs) × Int × Int) : List V := [.ref x.1.1, .int x.2.1, .int x.2.2]
abbrev sp_others_right : Sp := SpF enO fun x H Q => PrT H x.1.1 x.1.2 ∧ 1 ≤ x.2.1 ∧ x.2.1 ≤ 24 ∧ 1 ≤ x.2.2 ∧ x.2.2 ≤ 6 ∧ GoodP x.2.1 x.1.2 ∧ ∀ H', Same H H' → Q (.bl true) H'
theorem ok_law_are_others_right (F : Fun K "_law_are_others_right" "_law_are_others_right" s_law_are_others_right f fd) (T : Bl mg) (hk_turned_product : HasK P w K mg base 5 "turned_product" ["product", "level"] ["level", "product"] gV2 sp_turned_product)
    (h_law_same : HasG P w K mg base 1 "_law_same" ["_law_told_here", "_law_due_here"] (sp_law_same K)) (h_does_fit : Has P w K mg base 5 "does_fit" ["product", "level"] sp_does_fit)
    (h_law_told : Has P w K mg base 6 "_law_told" ["_law_product"] sp_law_told) (h_undone_product : Has P w K mg base 5 "undone_product" ["product"] sp_undone_product) (h_turned_product : Has P w K mg base 5 "turned_product" ["product", "level"] sp_turned_product)
    (h_order_at : Has P w K mg base 6 "order_at" ["level", "product", "c"] sp_raw_order) (h_start_of : Has P w K mg base 5 "start_of" ["product"] sp_raw_start) (h_product_weight : Has P w K mg base 5 "product_weight" ["product"] sp_raw_weight)
    (h_product_level : Has P w K mg base 5 "product_level" ["product"] sp_raw_level) (h_product_sign : Has P w K mg base 5 "product_sign" ["product"] sp_product_sign) (h_spread_product : Has P w K mg base 5 "spread_product" ["product", "t"] sp_spread_product) :
    FnOkG P w K mg base 7 f fd ["_law_product", "_law_level_here", "_law_t"] sp_others_right := by
  refine okG F sc_law_are_others_right (fun _ => rfl) fun cdv A outer s H x Q E hgd hr q => ?_
  refine ⟨_, (pss_cons (ps_asg (pe_fn h_law_told (hr.mono (by decide)) (by rfl) (pa_cons (pv 0) pa_nil)) (pg_unl rfl (pgs_cons (pg_name (i := 3) sc_law_are_others_right.nd rfl (.inl rfl)) (pgs_cons (pg_name (i := 4) sc_law_are_others_right.nd rfl (.inl rfl)) (pgs_cons (pg_name (i := 5) sc_law_are_others_right.nd rfl (.inl rfl)) (pgs_cons (pg_name (i := 6) sc_law_are_others_right.nd rfl (.inl rfl)) pgs_nil))))))
  (pss_cons (ps_set (i := 7) sc_law_are_others_right.nd rfl (.inl rfl) (pe_fn h_undone_product (hr.mono (by decide)) (by rfl) (pa_cons (pv 0) pa_nil)))
  (pss_cons (ps_if (pt_not (pt_val (pe_fnG h_law_same hgd (hr.mono (by decide)) (by rfl) (pa_cons (pe_fn h_law_told (hr.mono (by decide)) (by rfl) (pa_cons (pv 7) pa_nil)) (pa_cons (pe_lst (pa_cons (pe_tup (pa_cons (pe_op op_sub pe_int (pe_ix ix_tup (pv 3) pe_int (fun _ _ => rfl))) (pa_cons pe_int pa_nil))) (pa_cons (pe_tup (pa_cons (pe_op op_sub pe_int (pe_ix ix_tup (pv 4) pe_int (fun _ _ => rfl))) (pa_cons pe_int pa_nil))) (pa_cons (pv 5) (pa_cons (pv 6) pa_nil))))) pa_nil)))))
    (pss_one (ps_ret pe_bl))
    pss_nil)
  (pss_cons (ps_par (i := 8) (j := 9) (by rfl) sc_law_are_others_right.nd rfl rfl (by decide) rfl rfl (pa_cons (pe_fn h_turned_product (hr.mono (by decide)) (by rfl) (pa_cons (pv 0) (pa_cons (pv 1) pa_nil))) (pa_cons (pe_callTy call_tuple_of (by rfl) T.tuple (by decide +kernel) (pa_cons (pe_callB cr_sortedPO (by rfl) T.sorted (by decide +kernel) (pa_cons (pe_lc (own := [("_law_d", 13), ("_law_r", 14)]) (g := (gTup K 2 (gCons (gName 13) (gCons (gName 14) gNil)))) rfl sc_law_are_others_right.nd (pi_tup (pv 0)) (blkOk_by (own := [("_law_d", 13), ("_law_r", 14)]) (N := N_law_are_others_right) (sc := defScope s_law_are_others_right) (by decide +kernel)) (fun _ _ _ _ _ => pg_tup rfl (pgs_cons (pg_name (i := 13) sc_law_are_others_right.nd rfl (Or.inl rfl)) (pgs_cons (pg_name (i := 14) sc_law_are_others_right.nd rfl (Or.inl rfl)) pgs_nil))) (fun _ _ _ _ _ => pts_nil) (fun _ _ _ _ _ => (pe_tup (pa_cons (pe_op op_fdivW (pv 1) (pv 13)) (pa_cons (pv 14) pa_nil))))) pa_nil)) pa_nil)) pa_nil)) (by rfl))
  (pss_cons (ps_if (PW.pt (pw_or (pt_not (pt_val (pe_fnG h_law_same hgd (hr.mono (by decide)) (by rfl) (pa_cons (pv 8) (pa_cons (pv 9) pa_nil))))) (pw_or1 (pt_cmpR op_notBl (pe_fn h_does_fit (hr.mono (by decide)) (by rfl) (pa_cons (pv 8) (pa_cons (pv 1) pa_nil))) pe_bl (nomark _)))))
    (pss_one (ps_ret pe_bl))
    pss_nil)
  (pss_cons (ps_set (i := 10) sc_law_are_others_right.nd rfl (.inl rfl) (pe_fn h_order_at (hr.mono (by decide)) (by rfl) (pa_cons (pv 1) (pa_cons (pv 0) (pa_cons pe_int pa_nil)))))
  (pss_cons (ps_set (i := 11) sc_law_are_others_right.nd rfl (.inl rfl) (pe_lst (pa_cons (pe_fnk hk_turned_product (hr.mono (by decide)) (by rfl) (pk_cons (pv 1) (pk_cons (pv 8) pk_nil))) (pa_cons (pe_fn h_start_of (hr.mono (by decide)) (by rfl) (pa_cons (pv 8) pa_nil)) (pa_cons (pe_fn h_product_weight (hr.mono (by decide)) (by rfl) (pa_cons (pv 8) pa_nil)) (pa_cons (pe_fn h_product_sign (hr.mono (by decide)) (by rfl) (pa_cons (pv 8) pa_nil)) pa_nil))))))
  (pss_cons (ps_if (PW.pt (pw_or (pt_not (pt_val (pe_fnG h_law_same hgd (hr.mono (by decide)) (by rfl) (pa_cons (pv 11) (pa_cons (pe_lst (pa_cons (pv 0) (pa_cons (pv 10) (pa_cons (pv 4) (pa_cons (pv 6) pa_nil))))) pa_nil))))) (pw_or1 (pt_cmpR op_ne (pe_op op_mod (pe_callTy call_int1 (by rfl) T.int (by decide +kernel) (pa_cons (pv 1) pa_nil)) (pe_fn h_product_level (hr.mono (by decide)) (by rfl) (pa_cons (pv 8) pa_nil))) pe_int (nomark _)))))
    (pss_one (ps_ret pe_bl))
    pss_nil)
  (pss_cons (ps_set (i := 12) sc_law_are_others_right.nd rfl (.inl rfl) (pe_fn h_spread_product (hr.mono (by decide)) (by rfl) (pa_cons (pv 0) (pa_cons (pv 2) pa_nil))))
  (pss_cons (ps_set (i := 9) sc_law_are_others_right.nd rfl (.inl rfl) (pe_lst (pa_cons (pe_tup (pa_cons (pe_op op_mulW (pe_ix ix_tup (pv 3) pe_int (fun _ _ => rfl)) (pv 2)) (pa_cons (pe_ix ix_tup (pv 3) pe_int (fun _ _ => rfl)) pa_nil))) (pa_cons (pv 4) (pa_cons (pv 6) pa_nil)))))
  (pss_cons (ps_if (pt_not (pt_val (pe_fnG h_law_same hgd (hr.mono (by decide)) (by rfl) (pa_cons (pe_lst (pa_cons (pe_fn h_start_of (hr.mono (by decide)) (by rfl) (pa_cons (pv 12) pa_nil)) (pa_cons (pe_fn h_product_weight (hr.mono (by decide)) (by rfl) (pa_cons (pv 12) pa_nil)) (pa_cons (pe_fn h_product_sign (hr.mono (by decide)) (by rfl) (pa_cons (pv 12) pa_nil)) pa_nil)))) (pa_cons (pv 9) pa_nil)))))
    (pss_one (ps_ret pe_bl))
    pss_nil)
  (pss_one (ps_ret (pe_and (pe_cmpR op_isBl (pe_fn h_does_fit (hr.mono (by decide)) (by rfl) (pa_cons (pv 12) (pa_cons (pe_op op_mulW (pv 1) (pv 2)) pa_nil))) pe_bl (nomark _)) (pe_one (pe_cmpR op_eq (pe_op op_mod (pe_callTy call_int1 (by rfl) T.int (by decide +kernel) (pa_cons (pe_op op_mulW (pv 1) (pv 2)) pa_nil)) (pe_fn h_product_level (hr.mono (by decide)) (by rfl) (pa_cons (pv 12) pa_nil))) pe_int (nomark _))))))))))))))))), ?_⟩
  obtain ⟨⟨a, ps⟩, N, t⟩ := x
  obtain ⟨hp, n1, n2, t1, t2, gp, qQ⟩ := q
  have hp : PrT H a ps := hp
  have n1 : 1 ≤ N := n1
  have n2 : N ≤ 24 := n2
  have t1 : 1 ≤ t := t1
  have t2 : t ≤ 6 := t2
  have gp : GoodP N ps := gp
  have n4 : N ≤ 400 := by omega
  have fit := gp.fit
  have ip := fit.prod n1 n4
  have td : Tld ps := ⟨⟨N, fit, n1, n4⟩, sgn_of n1 n2 fit.dv⟩
  have sg : signOkB (signM ps) = true := (signs_joined n1 n2 fit.dv fit.dv fit.ev fit.ev (js := ps ++ ps) fun f => S_append f ps ps).1
  have bd := Bd.of n1 n4 fit sg
  have fu : Fit N (undoneM ps) := fit.undone
  have tu : Tld (undoneM ps) := ⟨⟨N, fu, n1, n4⟩, sgn_of n1 n2 fu.dv⟩
  have su : signM (undoneM ps) = signM ps := sign_undone fit.ev
  have bu := Bd.of n1 n4 fu (by rw [su]; exact sg)
  have ft : Fit N (turn N ps) := fit.turned n1
  have tt : Tld (turn N ps) := ⟨⟨N, ft, n1, n4⟩, sgn_of n1 n2 ft.dv⟩
  have st : signM (turn N ps) = signM ps := sign_turned n1 n2 fit.dv fit.ev
  have fs : Fit (N * t) (spreadM t ps) := fit.spread n1 t1
  have nt1 : 1 ≤ N * t := Int.mul_pos (by omega) (by omega)
  have nt2 : N * t ≤ 144 := Int.le_trans (Int.mul_le_mul n2 t2 (by omega) (by omega)) (by decide)
  have nt4 : N * t ≤ 400 := by omega
  have ss : signM (spreadM t ps) = signM ps := sign_spread n1 n2 t1 t2 fit.dv fit.ev
  have is' := fs.prod nt1 nt4
  have gs : Sgn (spreadM t ps) := fun q hq => by
    obtain ⟨a, b⟩ := fs.dv q hq
    have l := Int.le_of_dvd (by omega) (Int.dvd_of_emod_eq_zero b)
    exact ⟨a, by omega, mod_trans (PP_of n1 n2 t1 t2) b⟩
  refine ⟨_, rfl, (a, ps), rfl, hp, td, fun H1 e1 s1 d1 => ?_⟩
  obtain ⟨x1, y1, a1, a2, a3⟩ := d1
  have a1 : H1 e1 = some (.lst [.ref x1, .ref y1, .int (lvl ps), .int (signM ps)]) := a1
  have a2 : H1 x1 = some (tp (stepS ps / 24, 1)) := a2
  have a3 : H1 y1 = some (tp (powS ps / 2, 1)) := a3
  refine ⟨e1, _, rfl, SqL.of a1, rfl, _, _, rfl, _, _, rfl, _, _, rfl, _, _, rfl, rfl, ?_⟩
  refine ⟨_, rfl, (a, ps), rfl, hp.same s1, ip, fun H2 e2 s2 d2 => ?_⟩
  have d2 : PrT H2 e2 (undoneM ps) := d2
  refine ⟨_, rfl, (e2, undoneM ps), rfl, d2, tu, fun H3 e3 s3 d3 => ?_⟩
  have d3 : TolD H3 e3 (undoneM ps) := d3
  have a1 := s3 _ _ (s2 _ _ a1)
  have a2 := s3 _ _ (s2 _ _ a2)
  have a3 := s3 _ _ (s2 _ _ a3)
  have s03 := (s1.trans s2).trans s3
  clear d2 s1 s2 s3
  refine ⟨_, rfl, x1, _, 0, _, rfl, rfl, SqT.of a2, rfl, _, _, rfl, rfl, by show 2 ≤ sizeLine; decide, fun o1 i1 => ?_⟩
  have u1 := same_upd (o := .tup [.int (0 - stepS ps / 24), .int 1]) i1
  have h1 : upd H3 o1 (.tup [.int (0 - stepS ps / 24), .int 1]) o1 = some (tp (0 - stepS ps / 24, 1)) := upd_same
  generalize upd H3 o1 (.tup [.int (0 - stepS ps / 24), .int 1]) = H4 at *
  refine ⟨_, rfl, y1, _, 0, _, rfl, rfl, SqT.of (u1 _ _ a3), rfl, _, _, rfl, rfl, by show 2 ≤ sizeLine; decide, fun o2 i2 => ?_⟩
  have u2 := same_upd (o := .tup [.int (0 - powS ps / 2), .int 1]) i2
  have h2 : upd H4 o2 (.tup [.int (0 - powS ps / 2), .int 1]) o2 = some (tp (0 - powS ps / 2, 1)) := upd_same
  generalize upd H4 o2 (.tup [.int (0 - powS ps / 2), .int 1]) = H5 at *
  refine ⟨_, rfl, _, rfl, by show 4 ≤ sizeLine; decide, fun o3 i3 => ?_⟩
  have u3 := same_upd (o := .lst [.ref o1, .ref o2, .int (lvl ps), .int (signM ps)]) i3
  have h3 : upd H5 o3 (.lst [.ref o1, .ref o2, .int (lvl ps), .int (signM ps)]) o3 = _ := upd_same
  generalize upd H5 o3 (.lst [.ref o1, .ref o2, .int (lvl ps), .int (signM ps)]) = H6 at *
  have e24 : 0 - stepS ps / 24 = stepS (undoneM ps) / 24 := by
    have a : stepS (undoneM ps) = - stepS ps := S_neg (fun d => d) ps
    have b := fit.st
    omega
  have ep2 : 0 - powS ps / 2 = powS (undoneM ps) / 2 := by
    have a : powS (undoneM ps) = - powS ps := S_neg (fun _ => 1) ps
    have b := fit.ev
    omega
  have el : lvl (undoneM ps) = lvl ps := lvl_undone ps
  have u03 := (u1.trans u2).trans u3
  have k3 : TolD H6 o3 (undoneM ps) := ⟨o1, o2, by rw [h3, el, su], by rw [← e24]; exact u3 _ _ (u2 _ _ h1), by rw [← ep2]; exact u3 _ _ h2⟩
  have s06 := s03.trans u03
  have a2 := u03 _ _ a2
  have a3 := u03 _ _ a3
  refine ⟨(e3, o3, toldD (undoneM ps)), rfl, dp_told (d3.same u03), dp_told k3, (sd_told bu).lite (by decide) (by decide), ?_⟩
  clear k3 h1 h2 h3 u1 u2 u3 u03 d3 a1 s03
  refine ⟨_, rfl, iteF ?_⟩
  have hp6 := hp.same s06
  refine ⟨_, rfl, _, rfl, ((a, ps), N), rfl, hp6, fit, n1, n4, fun H7 e7 s7 d7 => ?_⟩
  have d7 : PrT H7 e7 (turn N ps) := d7
  have hp7 := hp6.same s7
  refine ⟨_, rfl, a, rfl, hp7.sqx, fun D hD => lc_mk (K := K) hD (fun q => (N / q.1, q.2)) hp7 (len1000 ip) (fun _ _ => rfl) (fun q hq H' R sm r => ?_) fun H8 s8 hd => ?_⟩
  · obtain ⟨d1, d2, d3, d4, d5⟩ := ip.2.2 q hq
    exact ⟨_, rfl, _, rfl, _, _, rfl, rfl, div_ok (by omega) (by omega), _, rfl, r⟩
  obtain ⟨bs, hb, hbs⟩ := hd
  have down : (ps.map fun q => (N / q.1, q.2)).Pairwise (fun x y => y.1 < x.1) := List.pairwise_reverse.mp ft.asc
  refine ⟨D, bs.map V.ref, kH H8, rfl, SqL.of hb, fun x hx => ?_, fun ys p so sb np => ?_⟩
  · obtain ⟨b, hb2, rfl⟩ := List.mem_map.mp hx
    obtain ⟨q, hq, e⟩ := Paired.mem hbs hb2
    exact ⟨b, rfl, by rw [kH_at e]; exact e⟩
  obtain rfl := sorted_down hbs down so sb
  refine ⟨p, _, rfl, .inl ⟨SqL.of upd_same, fun l nl => ?_⟩⟩
  have w1 := same_upd (o := .lst (bs.reverse.map V.ref)) np
  have w2 := same_upd (o := .tup (bs.reverse.map V.ref)) nl
  have hl : PrT (upd (upd H8 p (.lst (bs.reverse.map V.ref))) l (.tup (bs.reverse.map V.ref))) l (turn N ps) := ⟨bs.reverse, .inl upd_same, Paired.rev (Prs.same (w1.trans w2) hbs)⟩
  generalize upd (upd H8 p (.lst (bs.reverse.map V.ref))) l (.tup (bs.reverse.map V.ref)) = H9 at *
  have s79 := (s8.trans w1).trans w2
  have d9 := d7.same s79
  have s69 := s7.trans s79
  have it := ft.prod n1 n4
  refine ⟨_, _, rfl, _, rfl, _, rfl, (e7, l, pD (turn N ps)), rfl, dp_pr d9, dp_pr hl, (sd_pr it).lite (by decide) (by decide), ?_⟩
  refine ⟨_, rfl, iteF ?_⟩
  refine ⟨_, rfl, _, rfl, ((e7, turn N ps), N), rfl, d9, ft, n1, n4, fun H10 s10 => ⟨true, true, rfl, rfl, _, rfl, iteF ?_⟩⟩
  have s610 := s69.trans s10
  have p10 := hp6.same s610
  have q10 := d9.same s10
  clear hl hbs hb d9 d7 w1 w2 s79
  have s010 := s06.trans s610
  have a2 := s610 _ _ a2
  have a3 := s610 _ _ a3
  clear s69 s8 s7 hp7 hp6 s06 s610 np nl s10 i1 i2 i3
  refine ⟨_, rfl, _, rfl, ((a, ps), N), rfl, p10, fit, n1, n2, fun H11 e11 s11 d11 => ?_⟩
  have d11 : H11 e11 = some (tp (S (fun d => N / d) ps / 24, 1)) := d11
  refine ⟨_, rfl, _, rfl, ((e7, turn N ps), N), rfl, q10.same s11, ft, n1, n4, fun H12 e12 s12 d12 => ?_⟩
  have d12 : PrT H12 e12 (turn N (turn N ps)) := d12
  rw [turn_turn n1 fit] at d12
  refine ⟨_, rfl, (e7, turn N ps), rfl, q10.same (s11.trans s12), it, ft.whole, fun H13 e13 s13 d13 => ?_⟩
  have d13 : H13 e13 = some (tp (stepS (turn N ps) / 24, 1)) := d13
  rw [step_turn] at d13
  refine ⟨_, rfl, (e7, turn N ps), rfl, q10.same ((s11.trans s12).trans s13), it, ft.whole, fun H14 e14 s14 d14 => ?_⟩
  have d14 : H14 e14 = some (tp (powS (turn N ps) / 2, 1)) := d14
  rw [pow_turn] at d14
  refine ⟨_, rfl, (e7, turn N ps), rfl, q10.same (((s11.trans s12).trans s13).trans s14), it, ft.whole, tt.2, fun H15 s15 => ⟨by show 4 ≤ sizeLine; decide, fun o1 i1 => ?_⟩⟩
  have est : signM (e7, turn N ps).2 = signM ps := st
  rw [est]
  have u1 := same_upd (o := .lst [.ref e12, .ref e13, .ref e14, .int (signM ps)]) i1
  have h1 : upd H15 o1 (.lst [.ref e12, .ref e13, .ref e14, .int (signM ps)]) o1 = _ := upd_same
  generalize upd H15 o1 (.lst [.ref e12, .ref e13, .ref e14, .int (signM ps)]) = H16 at *
  have s1116 := (((s12.trans s13).trans s14).trans s15).trans u1
  have s1016 := s11.trans s1116
  refine ⟨_, rfl, _, rfl, _, rfl, _, rfl, _, rfl, by show 4 ≤ sizeLine; decide, fun o2 i2 => ?_⟩
  have u2 := same_upd (o := .lst [.ref a, .ref e11, .ref y1, .int (signM ps)]) i2
  have h2 : upd H16 o2 (.lst [.ref a, .ref e11, .ref y1, .int (signM ps)]) o2 = _ := upd_same
  generalize upd H16 o2 (.lst [.ref a, .ref e11, .ref y1, .int (signM ps)]) = H17 at *
  have bt := it.bd
  have sb1 : sI (S (fun d => N / d) ps / 24) := by
    have e : stepS (turn N ps) = S (fun d => N / d) ps := step_turn N ps
    have p : (153600 : Nat) < 10 ^ 12 := by decide
    unfold sI
    omega
  have s15' := s15.trans (u1.trans u2)
  refine ⟨(o1, o2, .list [pD ps, tD (S (fun d => N / d) ps / 24, 1), tD (powS ps / 2, 1), .int (signM ps)]), rfl,
    .lst (SqL.of (u2 _ _ h1)) (.cons (dp_pr (d12.same ((s13.trans s14).trans s15'))) (.cons (dp_tp ((s14.trans s15') _ _ d13)) (.cons (dp_tp (s15' _ _ d14)) (.cons (.int _) .nil)))),
    .lst (SqL.of h2) (.cons (dp_pr ((p10.same s1016).same u2)) (.cons (dp_tp (u2 _ _ (s1116 _ _ d11))) (.cons (dp_tp (u2 _ _ (s1016 _ _ a3))) (.cons (.int _) .nil)))),
    (SdA.cons (sd_pr ip) (SdA.cons ((sd_tp sb1 one_sI).up (by decide) (Nat.le_refl _)) (SdA.cons ((sd_tp bd.pow one_sI).up (by decide) (Nat.le_refl _)) (SdA.cons ((Sd.int bd.sg).up (by decide) (Nat.le_refl _)) SdA.nil)))).list.lite (by decide) (by decide), ?_⟩
  refine ⟨_, rfl, iteF ?_⟩
  have s17 := s1016.trans u2
  have p17 := p10.same s17
  have q17 := q10.same s17
  have a2 := s17 _ _ a2
  have a3 := s17 _ _ a3
  have s017 := s010.trans s17
  clear d11 d12 d13 d14 h1 h2 u1 u2 s11 s12 s13 s14 s15 s15' s1116 s1016 s17 p10 q10 s010
  refine ⟨_, rfl, .inl ⟨_, rfl, _, rfl, (e7, turn N ps), rfl, q17, ⟨N, ft, n1, n4⟩, fun H18 s18 => ?_⟩⟩
  have lt := (lvl_fits (ps := turn N ps) fun q hq => (ft.dv q hq).1).1
  refine ⟨_, _, rfl, rfl, (show 0 < lvl (turn N ps) by omega), rfl, _, rfl, iteNS (vEq ft.lvl_dvd) ?_⟩
  have p18 := p17.same s18
  have a2 := s18 _ _ a2
  have a3 := s18 _ _ a3
  have s018 := s017.trans s18
  clear p17 q17 s017 s18
  refine ⟨_, rfl, _, rfl, ((a, ps), t), rfl, p18, ip, t1, (show t ≤ 1000 by omega), is'.sm, fun H19 e19 s19 d19 => ?_⟩
  have d19 : PrT H19 e19 (spreadM t ps) := d19
  have ipb := ip.bd
  have cm : CMulW (stepS ps / 24) t := mul_ok (by omega) (by omega) (by omega) (by omega)
  have cn : CMulW N t := mul_ok (by omega) (by omega) (by omega) (by omega)
  refine ⟨_, rfl, x1, _, 0, _, rfl, rfl, SqT.of (s19 _ _ a2), rfl, _, rfl, _, _, rfl, rfl, cm, _, rfl, x1, _, 1, _, rfl, rfl, SqT.of (s19 _ _ a2), rfl, by show 2 ≤ sizeLine; decide, fun o1 i1 => ⟨_, rfl, _, rfl, by show 3 ≤ sizeLine; decide, fun o2 i2 => ?_⟩⟩
  have u1 := same_upd (o := .tup [.int (stepS ps / 24 * t), .int 1]) i1
  have h1 : upd H19 o1 (.tup [.int (stepS ps / 24 * t), .int 1]) o1 = some (tp (stepS ps / 24 * t, 1)) := upd_same
  generalize upd H19 o1 (.tup [.int (stepS ps / 24 * t), .int 1]) = H20 at *
  have u2 := same_upd (o := .lst [.ref o1, .ref y1, .int (signM ps)]) i2
  have h2 : upd H20 o2 (.lst [.ref o1, .ref y1, .int (signM ps)]) o2 = _ := upd_same
  generalize upd H20 o2 (.lst [.ref o1, .ref y1, .int (signM ps)]) = H21 at *
  have u12 := u1.trans u2
  have d21 := d19.same u12
  refine ⟨_, rfl, (e19, spreadM t ps), rfl, d21, is', fs.whole, fun H22 e22 s22 d22 => ⟨_, rfl, (e19, spreadM t ps), rfl, d21.same s22, is', fs.whole, fun H23 e23 s23 d23 => ⟨_, rfl, (e19, spreadM t ps), rfl, d21.same (s22.trans s23), is', fs.whole, gs, fun H24 s24 => ⟨by show 3 ≤ sizeLine; decide, fun o3 i3 => ?_⟩⟩⟩⟩
  have d22 : H22 e22 = some (tp (stepS (spreadM t ps) / 24, 1)) := d22
  have d23 : H23 e23 = some (tp (powS (spreadM t ps) / 2, 1)) := d23
  rw [pow_spread] at d23
  have ess : signM (e19, spreadM t ps).2 = signM ps := ss
  rw [ess]
  have e24 : stepS ps / 24 * t = stepS (spreadM t ps) / 24 := by
    rw [step_spread, Int.mul_ediv_assoc t (Int.dvd_of_emod_eq_zero fit.st), Int.mul_comm]
  rw [e24] at h1
  have u3 := same_upd (o := .lst [.ref e22, .ref e23, .int (signM ps)]) i3
  have h3 : upd H24 o3 (.lst [.ref e22, .ref e23, .int (signM ps)]) o3 = _ := upd_same
  generalize upd H24 o3 (.lst [.ref e22, .ref e23, .int (signM ps)]) = H25 at *
  have isb := is'.bd
  have sb1 : sI (stepS (spreadM t ps) / 24) := by
    have p : (153600 : Nat) < 10 ^ 12 := by decide
    unfold sI
    omega
  have s25 := ((s22.trans s23).trans s24).trans u3
  refine ⟨_, rfl, (o3, o2, .list [tD (stepS (spreadM t ps) / 24, 1), tD (powS ps / 2, 1), .int (signM ps)]), rfl,
    .lst (SqL.of h3) (.cons (dp_tp (((s23.trans s24).trans u3) _ _ d22)) (.cons (dp_tp ((s24.trans u3) _ _ d23)) (.cons (.int _) .nil))),
    .lst (SqL.of (s25 _ _ h2)) (.cons (dp_tp (s25 _ _ (u2 _ _ h1))) (.cons (dp_tp (s25 _ _ (u12 _ _ (s19 _ _ a3)))) (.cons (.int _) .nil))),
    (SdA.cons (sd_tp sb1 one_sI) (SdA.cons (sd_tp bd.pow one_sI) (SdA.cons ((Sd.int bd.sg).up (by decide) (Nat.le_refl _)) SdA.nil))).list.lite (by decide) (by decide), ?_⟩
  refine ⟨_, rfl, iteF ?_⟩
  have d25 := d21.same s25
  have s025 := ((s018.trans s19).trans u12).trans s25
  clear d21 d22 d23 h1 h2 h3 u1 u2 u3 u12 s22 s23 s24 s25 s018 s19 d19 p18
  refine ⟨_, rfl, _, rfl, _, rfl, _, _, rfl, rfl, cn, ((e19, spreadM t ps), N * t), rfl, d25, fs, nt1, nt4, fun H26 s26 => ⟨true, true, rfl, rfl, _, rfl, iteT ?_⟩⟩
  have ll := (lvl_fits (ps := spreadM t ps) fun q hq => (fs.dv q hq).1).1
  refine ⟨_, rfl, _, rfl, _, _, rfl, rfl, cn, .inl ⟨_, rfl, _, rfl, (e19, spreadM t ps), rfl, d25.same s26, ⟨N * t, fs, nt1, nt4⟩, fun H27 s27 => ⟨_, _, rfl, rfl, (show 0 < lvl (spreadM t ps) by omega), rfl, ?_⟩⟩⟩
  show Q (.bl (decide (V.int (N * t % lvl (spreadM t ps)) = V.int 0))) H27
  rw [decide_eq_true (vEq fs.lvl_dvd)]
  exact qQ _ ((s025.trans s26).trans s27)
end
end K24
/-! K24, D15: the law itself. -/
namespace K24
open PySem PySem.Spec PyProof.Rows L2
theorem PrD.btw {H H' : Hp} {dk l a : Addr} {ps : Pairs} (d : DeckOk H dk l) (b : Btw dk l H H') (h : PrD H a ps) : PrD H' a ps := by
  obtain ⟨cs, mx, dr, e1, e2, _⟩ := d
  obtain ⟨as, o, ha, ho, hp⟩ := h
  refine ⟨as, o, b _ _ ha (fun z => ?_) (fun z => ?_), ho, Paired.mapP hp fun p q e => b _ _ e (fun z => ?_) (fun z => ?_)⟩
  · rw [z, e1] at ha; cases ha
  · rw [z, e2] at ha; cases ha
  · have e : H p = some (.tup [.int q.1, .int q.2]) := e
    rw [z, e1] at e; cases e
  · have e : H p = some (.tup [.int q.1, .int q.2]) := e
    rw [z, e2] at e; cases e
section
variable {P : Program} {w : World} {K : PySem.W.Frag} {mg : Str → Option Value} {base : Heap} {f : Addr} {fd : FuncData}

abbrev s_law : Stmt := topS 76
abbrev N_law : List Str := ["_law_script", "_law_deck_here", "_law_turn", "_law_level_here", "_law_t", "_law_one", "_law_other"]
theorem sc_law : FnScope N_law ["_law_script"] (defScope s_law) := ⟨rfl, rfl, rfl, by decide +kernel, rfl, by decide +kernel, by decide +kernel⟩
/- [(0, '_law_script'), (1, '_law_deck_here'), (2, '_law_turn'), (3, '_law_level_here'), (4, '_law_t'), (5, '_law_one'), (6, '_law_other')] cells [] calls ['_law_are_joined_right', '_law_are_others_right', '_law_deck', '_law_draw', '_law_whole'] -/

abbrev sp_law (K : PySem.W.Frag) : Sp := SpF (fun x : Addr × List Int => [.ref x.1]) fun x H Q => SqL K H x.1 (x.2.map V.int) ∧ x.2.length ≤ 63 ∧ ∀ H', Q (.bl true) H'
theorem ok_law (F : Fun K "law" "law" s_law f fd) (T : Bl mg) (h_law_deck : Has P w K mg base 1 "_law_deck" ["_law_script"] (sp_law_deck K)) (h_law_draw : Has P w K mg base 1 "_law_draw" ["_law_deck_here", "_law_many"] sp_law_draw)
    (h_law_whole : Has P w K mg base 3 "_law_whole" ["_law_deck_here", "_law_level_here", "_law_low", "_law_high"] sp_law_whole) (h_law_are_joined_right : HasG P w K mg base 7 "_law_are_joined_right" ["_law_one", "_law_other", "_law_level_here"] sp_joined_right)
    (h_law_are_others_right : HasG P w K mg base 7 "_law_are_others_right" ["_law_product", "_law_level_here", "_law_t"] sp_others_right) : FnOkG P w K mg base 8 f fd ["_law_script"] (sp_law K) := by
  refine okG F sc_law (fun _ => rfl) fun cdv A outer s H x Q E hgd hr q => ?_
  refine ⟨_, (pss_cons (ps_set (i := 1) sc_law.nd rfl (.inl rfl) (pe_fn h_law_deck (hr.mono (by decide)) (by rfl) (pa_cons (pv 0) pa_nil)))
  (pss_cons (ps_for PassesOwn.never rfl (pi_range1 (by rfl) T.range (pa_cons pe_int pa_nil)) (pg_name (i := 2) sc_law.nd rfl (.inl rfl))
    (pss_cons (ps_par (i := 3) (j := 4) (by rfl) sc_law.nd rfl rfl (by decide) rfl rfl (pa_cons (pe_op op_add pe_int (pe_fn h_law_draw (hr.mono (by decide)) (by rfl) (pa_cons (pv 1) (pa_cons pe_int pa_nil)))) (pa_cons (pe_op op_add pe_int (pe_fn h_law_draw (hr.mono (by decide)) (by rfl) (pa_cons (pv 1) (pa_cons pe_int pa_nil)))) pa_nil)) (by rfl))
  (pss_cons (ps_par (i := 5) (j := 6) (by rfl) sc_law.nd rfl rfl (by decide) rfl rfl (pa_cons (pe_fn h_law_whole (hr.mono (by decide)) (by rfl) (pa_cons (pv 1) (pa_cons (pv 3) (pa_cons (pe_un un_neg pe_int) (pa_cons pe_int pa_nil))))) (pa_cons (pe_fn h_law_whole (hr.mono (by decide)) (by rfl) (pa_cons (pv 1) (pa_cons (pv 3) (pa_cons (pe_un un_neg pe_int) (pa_cons pe_int pa_nil))))) pa_nil)) (by rfl))
  (pss_cons (ps_if (PW.pt (pw_or (pt_not (pt_val (pe_fnG h_law_are_joined_right hgd (hr.mono (by decide)) (by rfl) (pa_cons (pv 5) (pa_cons (pv 6) (pa_cons (pv 3) pa_nil)))))) (pw_or1 (pt_not (pt_val (pe_fnG h_law_are_others_right hgd (hr.mono (by decide)) (by rfl) (pa_cons (pv 5) (pa_cons (pv 3) (pa_cons (pv 4) pa_nil)))))))))
    (pss_one (ps_ret pe_bl))
    pss_nil)
  (pss_one (ps_if (pt_not (pt_val (pe_fnG h_law_are_others_right hgd (hr.mono (by decide)) (by rfl) (pa_cons (pv 6) (pa_cons (pv 3) (pa_cons (pe_op op_add pe_int (pe_fn h_law_draw (hr.mono (by decide)) (by rfl) (pa_cons (pv 1) (pa_cons pe_int pa_nil)))) pa_nil))))))
    (pss_one (ps_ret pe_bl))
    pss_nil))))))
  (pss_one (ps_ret pe_bl)))), ?_⟩
  obtain ⟨a, ns⟩ := x
  obtain ⟨ha, hl, qQ⟩ := q
  refine ⟨_, rfl, (a, ns), rfl, ha, hl, fun H1 dk l s1 D1 => ?_⟩
  refine ⟨2, rfl, by decide, by decide, for_range (lo := 0) (n := 2) (fun i σ H' => DeckOk H' dk l ∧ ∃ (o2 o3 o4 o5 o6 : Option V), σ = [some (.ref a), some (.ref dk), o2, o3, o4, o5, o6]) ⟨D1, _, _, _, _, _, rfl⟩ ?_ ?_⟩
  · rintro i σ H2 hi ⟨D2, o2, o3, o4, o5, o6, rfl⟩
    refine ⟨_, rfl, ((dk, l), 24), rfl, D2, (show (1 : Int) ≤ 24 by decide), (show (24 : Int) ≤ 10000 by decide), fun H3 N b3 D3 n0 n1 => ⟨_, _, rfl, rfl, _, rfl, ((dk, l), 6), rfl, D3, (show (1 : Int) ≤ 6 by decide), (show (6 : Int) ≤ 10000 by decide), fun H4 t b4 D4 t0 t1 => ⟨_, _, rfl, rfl, ?_⟩⟩⟩
    have n1 : N < 24 := n1
    have t1 : t < 6 := t1
    refine ⟨_, _, rfl, _, rfl, _, rfl, 6, rfl, ((dk, l), 1 + N), rfl, D4, (show 1 ≤ 1 + N by omega), (show 1 + N ≤ 24 by omega), fun H5 p ps b5 D5 gp hp => ?_⟩
    refine ⟨_, rfl, _, rfl, 6, rfl, ((dk, l), 1 + N), rfl, D5, (show 1 ≤ 1 + N by omega), (show 1 + N ≤ 24 by omega), fun H6 r qs b6 D6 gq hq => ?_⟩
    have hp : PrD H5 p ps := hp
    have hq : PrD H6 r qs := hq
    have gp : GoodP (1 + N) ps := gp
    have gq : GoodP (1 + N) qs := gq
    have hp6 := hp.btw D5 b6
    refine ⟨_, _, rfl, ?_⟩
    refine ⟨_, rfl, _, rfl, _, rfl, ((p, ps), (r, qs), 1 + N), rfl, hp6, hq.t, (show 1 ≤ 1 + N by omega), (show 1 + N ≤ 24 by omega), gp, gq, fun H7 s7 => ⟨_, rfl, iteF ?_⟩⟩
    refine ⟨_, rfl, _, rfl, _, rfl, ((p, ps), 1 + N, 1 + t), rfl, hp6.t.same s7, (show 1 ≤ 1 + N by omega), (show 1 + N ≤ 24 by omega), (show 1 ≤ 1 + t by omega), (show 1 + t ≤ 6 by omega), gp, fun H8 s8 => ⟨_, rfl, iteF ?_⟩⟩
    have D8 := (D6.same s7).same s8
    have q8 := (hq.same s7).same s8
    refine ⟨_, rfl, _, rfl, _, rfl, ((dk, l), 3), rfl, D8, (show (1 : Int) ≤ 3 by decide), (show (3 : Int) ≤ 10000 by decide), fun H9 u b9 D9 u0 u1 => ⟨_, _, rfl, rfl, ?_⟩⟩
    have u1 : u < 3 := u1
    refine ⟨((r, qs), 1 + N, 1 + u), rfl, (q8.btw D8 b9).t, (show 1 ≤ 1 + N by omega), (show 1 + N ≤ 24 by omega), (show 1 ≤ 1 + u by omega), (show 1 + u ≤ 6 by omega), gq, fun H10 s10 => ⟨_, rfl, iteF ?_⟩⟩
    exact ⟨D9.same s10, _, _, _, _, _, rfl⟩
  · rintro σ H2 _
    exact qQ H2
end
end K24
/-! K24, E1: from the head to the promise of the law, where no guard stands. -/
namespace K24
open PySem PySem.Spec PyProof.Rows L2
/-- the law called at the heap behind the top -/
theorem called {P : Program} {w : World} {K : PySem.W.Frag} {mg mb : Str → Option Value} {k : Nat} {fa a : Addr} {fd : FuncData} {x : Str} {sp : Sp} {t : Shared} {us : List Value} {ns : List Int} (kx : K.In t.heap) (gs : t.heap.Ns mainGlobals mg) (bs : t.heap.Ns builtinsNs mb) (bb : ∀ y : Str, y ≠ "__name__" → mb y = bootBuiltins y)
    (lim : t.heap.NoLimit) (gn : t.gens = #[]) (sa : t.heap.get? a = some { cls := .type "list", data := .seq us.toArray }) (si : IntsAre us ns) (sl : ns.length ≤ sizeLine) (rm : Room k callerA) (F : ∀ base : Heap, K.In base → base.Ns mainGlobals mg → FnOkG P w K mg base k fa fd [x] sp)
    (bd : ∀ (s : Shared) (u : Value), BindsTo s fd ⟨[u], []⟩ [(x, u)]) (pr : ∀ H : Hp, SqL K H a (ns.map V.int) → sp [.ref a] H (fun v _ => v = .bl true) fun _ _ _ => False) :
    codeAny (model P w) callerA (.call (.ref fa) ⟨[.ref a], []⟩) (fun r s' => r = .ok (.ret (.bool true)) ∧ PySem.OldK t.heap s'.heap ∧ s'.os = t.os ∧ AllBare s'.gens) t := by
  have vu := vals_ints si
  -- H: what is tracked at the start: the script at most, known whole
  have go : ∀ H : Hp, SqL K H a (ns.map V.int) → HOk P w H t.heap → (∀ b u, H b = some u → b = a ∧ K.lookup b = none ∧ ∃ o xs, u = .frz o (.lst xs)) →
      codeAny (model P w) callerA (.call (.ref fa) ⟨[.ref a], []⟩) (fun r s' => r = .ok (.ret (.bool true)) ∧ PySem.OldK t.heap s'.heap ∧ s'.os = t.os ∧ AllBare s'.gens) t := by
    intro H hs hok one
    have dic : ∀ {b : Addr} {o : Obj} {es : Array DictEntry} {ep : Nat}, t.heap.get? b = some o → o.data = .dict es ep → H b = none := fun {b o es ep} e d => by
      cases z : H b with
      | none => rfl
      | some u => obtain ⟨rfl, _⟩ := one b u z; rw [sa] at e; cases e; have d2 : Data.seq us.toArray _ = Data.dict es ep := d; cases d2
    have nsT : ∀ {b : Addr} {m : Str → Option Value}, t.heap.Ns b m → (hidT t.heap H).Ns b m := fun {b m} ⟨o, es, ep, e, d, r⟩ => ⟨o, es, ep, hidT_get e (dic e d), d, r⟩
    have kb : K.In (hidT t.heap H) := fun b o e => hidT_get (kx b o e) (by
      cases z : H b with
      | none => rfl
      | some u => obtain ⟨_, no, _⟩ := one b u z; rw [no] at e; cases e)
    have env : Env0 P w K mg (hidT t.heap H) callerA [] t H := ⟨rfl, ⟨kb, nsT gs, ⟨mb, nsT bs, bb⟩, let ⟨mc, l1, l2⟩ := lim; ⟨mc, nsT l1, l2⟩⟩, fun b o e => of_hidT e, Nat.le_of_eq (hidT_size _ _), trivial, fun b hb => absurd (show b ∈ ([] : List Addr) from hb) (by simp), hok, .of_eq gn⟩
    refine codeAny_mono ((F _ kb (nsT gs)).goes callerA [] t H ⟨[.ref a], []⟩ [.ref a] [.ref a] _ _ rfl rm env (bd t (.ref a)) (.cons rfl .nil) (pr H hs)) fun r s' h => ?_
    rcases r with e | fl
    · exact False.elim h
    · cases fl with
      | ret u =>
        obtain ⟨v, H', os, bare, un, hok', rv, q⟩ := h
        have q2 : v = .bl true := q; subst q2; obtain rfl : u = Value.bool true := rv
        refine ⟨rfl, PySem.OldK.of_keep fun b o e => ?_, os, bare⟩
        cases z : H b with
        | none => exact un.keep b o e z (by intro y; exact absurd (show b ∈ ([] : List Addr) from y) (by simp)) (by simp)
        | some u =>
          obtain ⟨_, _, ob, xs, rfl⟩ := one b u z
          have e1 := (hok b _ z).1; rw [e] at e1; cases e1; exact (hok' b _ (un.frzs b _ _ z)).1
      | next => exact False.elim h
      | brk => exact False.elim h
      | cont => exact False.elim h
  cases hk : K.lookup a with
  | some o =>
    have e := kx a o hk; rw [sa] at e; cases e
    exact go (fun _ => none) (.inr ⟨_, us.toArray, _, hk, rfl, rfl, rfl, by rw [List.size_toArray, si.length]; exact sl, by simpa using vu⟩) (fun b u z => by have y : (none : Option HO) = some u := z; cases y) fun b u z => by have y : (none : Option HO) = some u := z; cases y
  | none =>
    have sp1 : ∀ b u, (if b = a then some (HO.frz { cls := .type "list", data := .seq us.toArray } (.lst (ns.map V.int))) else none) = some u → b = a ∧ u = .frz { cls := .type "list", data := .seq us.toArray } (.lst (ns.map V.int)) := fun b u z => by
      by_cases hb : b = a
      · exact ⟨hb, by rw [if_pos hb] at z; exact (Option.some.inj z).symm⟩
      · rw [if_neg hb] at z; cases z
    refine go (fun b => if b = a then some (.frz { cls := .type "list", data := .seq us.toArray } (.lst (ns.map V.int))) else none) (.inl (.inr ⟨{ cls := .type "list", data := .seq us.toArray }, if_pos rfl⟩)) (fun b u z => ?_) fun b u z => ?_
    · obtain ⟨rfl, rfl⟩ := sp1 b u z
      exact ⟨sa, by rw [List.length_map]; exact sl, us, _, vu, sa⟩
    · obtain ⟨rfl, rfl⟩ := sp1 b u z
      exact ⟨rfl, hk, _, _, rfl⟩
/-- what the head leaves, from the promise of the law -/
theorem walkG {l : PySem.W.OpenLaw} {n k : Nat} {q : Program} {loose : List Str} {XP : (Str → Option Value) → Heap → Prop} {YP : World → Heap → Prop} {d : DefRec} {K : Params → PySem.W.Frag} {sp : World → Sp} {x : Str} (hn : l.most = some n) (hn2 : n ≤ sizeLine) (hdf : d.params.defaults = []) (hr : Room k callerA)
    (hY : ∀ (w : World) (h : Heap), YP w h → (K w.params).In h) (F : ∀ (w : World) (mg : Str → Option Value) (fa : Addr) (h : Heap), (K w.params).In h → h.Ns mainGlobals mg → mg d.name = some (.ref fa) → ∃ fd : FuncData, (∀ (s : Shared) (u : Value), BindsTo s fd ⟨[u], []⟩ [(x, u)]) ∧
        ∀ base : Heap, (K w.params).In base → base.Ns mainGlobals mg → FnOkG l.prog w (K w.params) mg base k fa fd [x] (sp w))
    (hsp : ∀ (w : World) (H : Hp) (a : Addr) (ns : List Int), ns.length ≤ n → SqL (K w.params) H a (ns.map V.int) → sp w [.ref a] H (fun v _ => v = .bl true) fun _ _ _ => False) : PySem.W.WalkO q loose XP YP l.row.toRowW d [] (fun f vs => PySem.call f vs) := by
  refine Att.attach_call hn hdf fun w _ t mg mb fa o pm cd doc a us ns G Y ho hd hcd hm sa si sl gn => ?_
  obtain ⟨fd, bd, ok⟩ := F w mg fa _ (hY w _ Y) G.T.g hm
  exact called (hY w _ Y) G.T.g G.T.b G.T.builtins G.T.nolimit gn sa si (Nat.le_trans sl hn2) hr ok bd fun H hS => hsp w H a ns sl hS
end K24
/-! K24, E2: what the top has written; the promises joined. -/
namespace K24
open PySem PySem.Spec PyProof.Rows L2
/-- the def x of the text stands in the module under its name -/
def DefIn (K : PySem.W.Frag) (x : Str) (st : Stmt) : Prop := ∃ (f : Addr) (fd : FuncData), PySem.W.nsIn K mainGlobals x = some (some (.ref f)) ∧ Fun K x x st f fd
section
variable {P : Program} {w : World} {K : PySem.W.Frag} {mg : Str → Option Value} {base h : Heap} {x : Str} {st : Stmt} {k : Nat} {ps : List Str} {sp : Sp}
theorem defIn {f : Addr} {od an : Option Addr} {sl : Array (Option Value)} {oc kV dc pm cd ct : Value} (a : PySem.W.nsIn K mainGlobals x = some (some (.ref f))) (l : K.lookup f = some ⟨oc, od, .func (PySem.W.fnOf x x (defArgs st) (defBody st) (defScope st) .none kV dc pm an cd ct), sl⟩)
    (c : PySem.W.codeIn K cd x = true) (kp : PySem.W.keepIn K (.ref f) = true) : DefIn K x st := ⟨f, _, a, fun_mk l c kp⟩
theorem cIn {i : Int} {t : Nat} (e : PySem.W.nsIn K mainGlobals x = some (some (.int i t))) : ∃ t, PySem.W.nsIn K mainGlobals x = some (some (.int i t)) := ⟨t, e⟩
/-- how a call by place binds -/
def Bnd (x : Str) (st : Stmt) (ps : List Str) : Prop := ∀ (kV doc pm : Value) (an : Option Addr) (cdv ct : Value) (us : List Value), us.length = ps.length → bindArgs (PySem.W.fnOf x x (defArgs st) (defBody st) (defScope st) .none kV doc pm an cdv ct) ⟨us, []⟩ = pure (ps.zip us)
theorem DefIn.has (D : DefIn K x st) (X : K.In h) (G : h.Ns mainGlobals mg) (ok : ∀ {f fd}, Fun K x x st f fd → FnOk P w K mg base CX0 k f fd ps sp) (hb : Bnd x st ps) : Has P w K mg base k x ps sp :=
  let ⟨f, fd, a, F⟩ := D
  ⟨f, fd, ok F, PySem.W.mg_of X G a, F.kp, F.binds hb⟩
theorem DefIn.hasG (D : DefIn K x st) (X : K.In h) (G : h.Ns mainGlobals mg) (ok : ∀ {f fd}, Fun K x x st f fd → FnOkG P w K mg base k f fd ps sp) (hb : Bnd x st ps) : HasG P w K mg base k x ps sp :=
  let ⟨f, fd, a, F⟩ := D
  ⟨f, fd, ok F, PySem.W.mg_of X G a, F.kp, F.binds hb⟩
theorem gQ_rel {vs : List V} {us : List Value} {zs : List V} {ws : List Value} (a : Vals vs us) (b : Vals zs ws) : Vals (gQ vs zs) (gQ us ws) := by
  cases a with
  | cons _ _ => cases b <;> exact .nil
  | nil =>
    cases b with
    | nil => exact .nil
    | cons r1 b => cases b with
      | nil => exact .nil
      | cons r2 b => cases b with
        | nil => exact .cons r2 (.cons r1 .nil)
        | cons _ _ => exact .nil
theorem DefIn.hask {p q : Str} (D : DefIn K x st) (X : K.In h) (G : h.Ns mainGlobals mg) (ok : ∀ {f fd}, Fun K x x st f fd → FnOk P w K mg base CX0 k f fd [p, q] sp)
    (hb : ∀ (kV doc pm : Value) (an : Option Addr) (cdv ct u v : Value), bindArgs (PySem.W.fnOf x x (defArgs st) (defBody st) (defScope st) .none kV doc pm an cdv ct) ⟨[], [(q, v), (p, u)]⟩ = pure [(p, u), (q, v)]) : HasK P w K mg base k x [p, q] [q, p] gV2 sp := by
  obtain ⟨f, fd, a, F⟩ := D
  refine ⟨f, fd, gQ, ok F, PySem.W.mg_of X G a, F.kp, ⟨fun s us ws _ hl => ?_, fun a b => gQ_rel a b⟩⟩
  obtain ⟨_, _, kV, doc, pm, an, cdv, ct, _, rfl, _, _⟩ := F.ex
  match us, ws, hl with
  | [], [v, u], _ => exact .of_eq (hb kV doc pm an cdv ct u v)
  | [], [], hl => cases hl
  | [], [_], hl => cases hl
  | [], _ :: _ :: _ :: _, hl => cases hl
  | _ :: _, _, hl => cases hl
end
/-- what the top has written -/
structure All (K : PySem.W.Frag) : Prop where
  d_is_integer : DefIn K "is_integer" s_is_integer
  d_is_between : DefIn K "is_between" s_is_between
  d_is_level : DefIn K "is_level" s_is_level
  d_least_multiple : DefIn K "least_multiple" s_least_multiple
  d_primes_of : DefIn K "primes_of" s_primes_of
  d_normal : DefIn K "normal" s_normal
  d_number_sum : DefIn K "number_sum" s_number_sum
  d_number_product : DefIn K "number_product" s_number_product
  d_need_level : DefIn K "need_level" s_need_level
  d_need_from : DefIn K "need_from" s_need_from
  d_is_free : DefIn K "is_free" s_is_free
  d_is_sign : DefIn K "is_sign" s_is_sign
  d_need_sign : DefIn K "need_sign" s_need_sign
  d_sign_for : DefIn K "sign_for" s_sign_for
  d_joined_sign : DefIn K "joined_sign" s_joined_sign
  d_is_product_value : DefIn K "is_product_value" s_is_product_value
  d_need_product : DefIn K "need_product" s_need_product
  d_step_sum : DefIn K "step_sum" s_step_sum
  d_power_sum : DefIn K "power_sum" s_power_sum
  d_raw_start : DefIn K "raw_start" s_raw_start
  d_raw_weight : DefIn K "raw_weight" s_raw_weight
  d_is_whole : DefIn K "is_whole" s_is_whole
  d_raw_level : DefIn K "raw_level" s_raw_level
  d_raw_sign : DefIn K "raw_sign" s_raw_sign
  d_spread_pairs : DefIn K "spread_pairs" s_spread_pairs
  d_start_of : DefIn K "start_of" s_start_of
  d_product_weight : DefIn K "product_weight" s_product_weight
  d_do_divide : DefIn K "do_divide" s_do_divide
  d_does_fit : DefIn K "does_fit" s_does_fit
  d_product_level : DefIn K "product_level" s_product_level
  d_product_sign : DefIn K "product_sign" s_product_sign
  d_settled : DefIn K "settled" s_settled
  d_joined_product : DefIn K "joined_product" s_joined_product
  d_undone_product : DefIn K "undone_product" s_undone_product
  d_turned_product : DefIn K "turned_product" s_turned_product
  d_spread_product : DefIn K "spread_product" s_spread_product
  d_raw_order : DefIn K "raw_order" s_raw_order
  d_need_both : DefIn K "need_both" s_need_both
  d_order_at : DefIn K "order_at" s_order_at
  d_law_deck : DefIn K "_law_deck" s_law_deck
  d_law_draw : DefIn K "_law_draw" s_law_draw
  d_law_pick : DefIn K "_law_pick" s_law_pick
  d_law_same : DefIn K "_law_same" s_law_same
  d_law_divisor : DefIn K "_law_divisor" s_law_divisor
  d_law_divisors : DefIn K "_law_divisors" s_law_divisors
  d_law_whole : DefIn K "_law_whole" s_law_whole
  d_law_level : DefIn K "_law_level" s_law_level
  d_law_joined : DefIn K "_law_joined" s_law_joined
  d_law_product_sign : DefIn K "_law_product_sign" s_law_product_sign
  d_law_told : DefIn K "_law_told" s_law_told
  d_law_due : DefIn K "_law_due" s_law_due
  d_law_are_joined_right : DefIn K "_law_are_joined_right" s_law_are_joined_right
  d_law_are_others_right : DefIn K "_law_are_others_right" s_law_are_others_right
  d_law : DefIn K "law" s_law
  n_isinstance : PySem.W.nsIn K mainGlobals "isinstance" = some none
  n_int : PySem.W.nsIn K mainGlobals "int" = some none
  n_bool : PySem.W.nsIn K mainGlobals "bool" = some none
  n_tuple : PySem.W.nsIn K mainGlobals "tuple" = some none
  n_list : PySem.W.nsIn K mainGlobals "list" = some none
  n_dict : PySem.W.nsIn K mainGlobals "dict" = some none
  n_abs : PySem.W.nsIn K mainGlobals "abs" = some none
  n_len : PySem.W.nsIn K mainGlobals "len" = some none
  n_sum : PySem.W.nsIn K mainGlobals "sum" = some none
  n_any : PySem.W.nsIn K mainGlobals "any" = some none
  n_all : PySem.W.nsIn K mainGlobals "all" = some none
  n_max : PySem.W.nsIn K mainGlobals "max" = some none
  n_repr : PySem.W.nsIn K mainGlobals "repr" = some none
  n_sorted : PySem.W.nsIn K mainGlobals "sorted" = some none
  n_range : PySem.W.nsIn K mainGlobals "range" = some none
  n_gcd : PySem.W.nsIn K mainGlobals "gcd" = some (some (.builtin "math.gcd"))
  n_MOST_LEVEL : ∃ t, PySem.W.nsIn K mainGlobals "MOST_LEVEL" = some (some (.int 400 t))
  n_MOST_SIGN : ∃ t, PySem.W.nsIn K mainGlobals "MOST_SIGN" = some (some (.int 400 t))
  n_MOST_PAIRS : ∃ t, PySem.W.nsIn K mainGlobals "MOST_PAIRS" = some (some (.int 8 t))
  n_MOST_STEP : ∃ t, PySem.W.nsIn K mainGlobals "MOST_STEP" = some (some (.int 400 t))
  n_MOST_POWER : ∃ t, PySem.W.nsIn K mainGlobals "MOST_POWER" = some (some (.int 48 t))
section
variable {P : Program} {w : World} {K : PySem.W.Frag} {mg : Str → Option Value} {h : Heap} {fa : Addr}
theorem All.bl (A : All K) (X : K.In h) (G : h.Ns mainGlobals mg) : Bl mg :=
  have z {x : Str} (e : PySem.W.nsIn K mainGlobals x = some none) : mg x = none := PySem.W.mg_none_of X G e
  have c {x : Str} {i : Int} (e : ∃ t, PySem.W.nsIn K mainGlobals x = some (some (.int i t))) : ∃ t, mg x = some (.int i t) := let ⟨t, e⟩ := e; ⟨t, PySem.W.mg_of X G e⟩
  ⟨z A.n_isinstance, z A.n_int, z A.n_bool, z A.n_tuple, z A.n_list, z A.n_dict, z A.n_abs, z A.n_len, z A.n_sum, z A.n_any, z A.n_all, z A.n_max, z A.n_repr, z A.n_sorted, z A.n_range, PySem.W.mg_of X G A.n_gcd, c A.n_MOST_LEVEL, c A.n_MOST_SIGN, c A.n_MOST_PAIRS, c A.n_MOST_STEP, c A.n_MOST_POWER⟩
theorem law_all (A : All K) (X : K.In h) (G : h.Ns mainGlobals mg) (hfa : mg "law" = some (.ref fa)) : ∃ fd : FuncData, (∀ (s : Shared) (v : Value), BindsTo s fd ⟨[v], []⟩ [("_law_script", v)]) ∧ ∀ base : Heap, K.In base → base.Ns mainGlobals mg → FnOkG P w K mg base 8 fa fd ["_law_script"] (sp_law K) := by
  have T := A.bl X G
  obtain ⟨f, fd, a, F⟩ := A.d_law
  have e := hfa.symm.trans (PySem.W.mg_of X G a)
  cases e
  have bl : ∀ (s : Shared) (v : Value), BindsTo s fd ⟨[v], []⟩ [("_law_script", v)] := by
    obtain ⟨_, _, kV, doc, pm, an, cdv, ct, _, rfl, _, _⟩ := F.ex
    exact fun s v => .of_eq rfl
  refine ⟨fd, bl, fun base _ _ => ?_⟩
  have h_is_integer := A.d_is_integer.has (P := P) (w := w) (base := base) (ps := ["thing"]) X G (fun F => ok_is_integer F T ) (fun _ _ _ _ _ _ us hl => match us, hl with | [_], _ => rfl)
  have h_is_between := A.d_is_between.has (P := P) (w := w) (base := base) (ps := ["thing", "least", "most"]) X G (fun F => ok_is_between F T h_is_integer) (fun _ _ _ _ _ _ us hl => match us, hl with | [_, _, _], _ => rfl)
  have h_is_level := A.d_is_level.has (P := P) (w := w) (base := base) (ps := ["thing"]) X G (fun F => ok_is_level F T h_is_between) (fun _ _ _ _ _ _ us hl => match us, hl with | [_], _ => rfl)
  have h_need_level := A.d_need_level.has (P := P) (w := w) (base := base) (ps := ["level"]) X G (fun F => ok_need_level F T h_is_level) (fun _ _ _ _ _ _ us hl => match us, hl with | [_], _ => rfl)
  have h_need_from := A.d_need_from.has (P := P) (w := w) (base := base) (ps := ["thing", "low"]) X G (fun F => ok_need_from F T h_is_integer) (fun _ _ _ _ _ _ us hl => match us, hl with | [_, _], _ => rfl)
  have h_least_multiple := A.d_least_multiple.has (P := P) (w := w) (base := base) (ps := ["one", "other"]) X G (fun F => ok_least_multiple F T ) (fun _ _ _ _ _ _ us hl => match us, hl with | [_, _], _ => rfl)
  have h_normal := A.d_normal.has (P := P) (w := w) (base := base) (ps := ["top", "bottom"]) X G (fun F => ok_normal F T ) (fun _ _ _ _ _ _ us hl => match us, hl with | [_, _], _ => rfl)
  have h_number_sum := A.d_number_sum.has (P := P) (w := w) (base := base) (ps := ["one", "other"]) X G (fun F => ok_number_sum F T h_normal) (fun _ _ _ _ _ _ us hl => match us, hl with | [_, _], _ => rfl)
  have h_number_product := A.d_number_product.has (P := P) (w := w) (base := base) (ps := ["one", "other"]) X G (fun F => ok_number_product F T h_normal) (fun _ _ _ _ _ _ us hl => match us, hl with | [_, _], _ => rfl)
  have h_primes_of := A.d_primes_of.has (P := P) (w := w) (base := base) (ps := ["number"]) X G (fun F => ok_primes_of F T ) (fun _ _ _ _ _ _ us hl => match us, hl with | [_], _ => rfl)
  have h_is_free := A.d_is_free.has (P := P) (w := w) (base := base) (ps := ["number"]) X G (fun F => ok_is_free F T ) (fun _ _ _ _ _ _ us hl => match us, hl with | [_], _ => rfl)
  have h_is_sign := A.d_is_sign.has (P := P) (w := w) (base := base) (ps := ["thing"]) X G (fun F => ok_is_sign F T h_is_between h_is_free) (fun _ _ _ _ _ _ us hl => match us, hl with | [_], _ => rfl)
  have h_need_sign := A.d_need_sign.has (P := P) (w := w) (base := base) (ps := ["sign"]) X G (fun F => ok_need_sign F T h_is_sign) (fun _ _ _ _ _ _ us hl => match us, hl with | [_], _ => rfl)
  have h_sign_for := A.d_sign_for.has (P := P) (w := w) (base := base) (ps := ["number"]) X G (fun F => ok_sign_for F T ) (fun _ _ _ _ _ _ us hl => match us, hl with | [_], _ => rfl)
  have h_joined_sign := A.d_joined_sign.has (P := P) (w := w) (base := base) (ps := ["one", "other"]) X G (fun F => ok_joined_sign F T h_need_sign h_sign_for) (fun _ _ _ _ _ _ us hl => match us, hl with | [_, _], _ => rfl)
  have h_is_product_value := A.d_is_product_value.has (P := P) (w := w) (base := base) (ps := ["thing"]) X G (fun F => ok_is_product_value F T h_is_between) (fun _ _ _ _ _ _ us hl => match us, hl with | [_], _ => rfl)
  have h_need_product := A.d_need_product.has (P := P) (w := w) (base := base) (ps := ["product"]) X G (fun F => ok_need_product F T h_is_product_value) (fun _ _ _ _ _ _ us hl => match us, hl with | [_], _ => rfl)
  have h_step_sum := A.d_step_sum.has (P := P) (w := w) (base := base) (ps := ["product"]) X G (fun F => ok_step_sum F T ) (fun _ _ _ _ _ _ us hl => match us, hl with | [_], _ => rfl)
  have h_power_sum := A.d_power_sum.has (P := P) (w := w) (base := base) (ps := ["product"]) X G (fun F => ok_power_sum F T ) (fun _ _ _ _ _ _ us hl => match us, hl with | [_], _ => rfl)
  have h_raw_start := A.d_raw_start.has (P := P) (w := w) (base := base) (ps := ["product"]) X G (fun F => ok_raw_start F T h_step_sum h_normal) (fun _ _ _ _ _ _ us hl => match us, hl with | [_], _ => rfl)
  have h_raw_weight := A.d_raw_weight.has (P := P) (w := w) (base := base) (ps := ["product"]) X G (fun F => ok_raw_weight F T h_power_sum h_normal) (fun _ _ _ _ _ _ us hl => match us, hl with | [_], _ => rfl)
  have h_is_whole := A.d_is_whole.has (P := P) (w := w) (base := base) (ps := ["product"]) X G (fun F => ok_is_whole F T h_step_sum h_power_sum) (fun _ _ _ _ _ _ us hl => match us, hl with | [_], _ => rfl)
  have h_raw_level := A.d_raw_level.has (P := P) (w := w) (base := base) (ps := ["product"]) X G (fun F => ok_raw_level F T h_is_whole h_least_multiple) (fun _ _ _ _ _ _ us hl => match us, hl with | [_], _ => rfl)
  have h_spread_pairs := A.d_spread_pairs.has (P := P) (w := w) (base := base) (ps := ["product", "t"]) X G (fun F => ok_spread_pairs F T ) (fun _ _ _ _ _ _ us hl => match us, hl with | [_, _], _ => rfl)
  have h_raw_sign := A.d_raw_sign.has (P := P) (w := w) (base := base) (ps := ["product"]) X G (fun F => ok_raw_sign F T h_power_sum h_primes_of) (fun _ _ _ _ _ _ us hl => match us, hl with | [_], _ => rfl)
  have h_start_of := A.d_start_of.has (P := P) (w := w) (base := base) (ps := ["product"]) X G (fun F => ok_start_of F T h_need_product h_raw_start) (fun _ _ _ _ _ _ us hl => match us, hl with | [_], _ => rfl)
  have h_product_weight := A.d_product_weight.has (P := P) (w := w) (base := base) (ps := ["product"]) X G (fun F => ok_product_weight F T h_need_product h_raw_weight) (fun _ _ _ _ _ _ us hl => match us, hl with | [_], _ => rfl)
  have h_do_divide := A.d_do_divide.has (P := P) (w := w) (base := base) (ps := ["product", "level"]) X G (fun F => ok_do_divide F T ) (fun _ _ _ _ _ _ us hl => match us, hl with | [_, _], _ => rfl)
  have h_does_fit := A.d_does_fit.has (P := P) (w := w) (base := base) (ps := ["product", "level"]) X G (fun F => ok_does_fit F T h_need_product h_need_level h_do_divide h_power_sum h_step_sum) (fun _ _ _ _ _ _ us hl => match us, hl with | [_, _], _ => rfl)
  have h_product_level := A.d_product_level.has (P := P) (w := w) (base := base) (ps := ["product"]) X G (fun F => ok_product_level F T h_need_product h_raw_level) (fun _ _ _ _ _ _ us hl => match us, hl with | [_], _ => rfl)
  have h_product_sign := A.d_product_sign.has (P := P) (w := w) (base := base) (ps := ["product"]) X G (fun F => ok_product_sign F T h_need_product h_is_whole h_raw_sign) (fun _ _ _ _ _ _ us hl => match us, hl with | [_], _ => rfl)
  have h_settledL := A.d_settled.has (P := P) (w := w) (base := base) (ps := ["pairs"]) X G (fun F => ok_settledL F T ) (fun _ _ _ _ _ _ us hl => match us, hl with | [_], _ => rfl)
  have h_settledT := A.d_settled.has (P := P) (w := w) (base := base) (ps := ["pairs"]) X G (fun F => ok_settledT F T ) (fun _ _ _ _ _ _ us hl => match us, hl with | [_], _ => rfl)
  have h_undone_product := A.d_undone_product.has (P := P) (w := w) (base := base) (ps := ["product"]) X G (fun F => ok_undone_product F T h_need_product) (fun _ _ _ _ _ _ us hl => match us, hl with | [_], _ => rfl)
  have h_turned_product := A.d_turned_product.has (P := P) (w := w) (base := base) (ps := ["product", "level"]) X G (fun F => ok_turned_product F T h_need_product h_need_level h_do_divide) (fun _ _ _ _ _ _ us hl => match us, hl with | [_, _], _ => rfl)
  have hk_turned_product := A.d_turned_product.hask (P := P) (w := w) (base := base) (p := "product") (q := "level") X G (fun F => ok_turned_product F T h_need_product h_need_level h_do_divide) (fun _ _ _ _ _ _ _ _ => rfl)
  have h_spread_product := A.d_spread_product.has (P := P) (w := w) (base := base) (ps := ["product", "t"]) X G (fun F => ok_spread_product F T h_need_product h_need_from h_spread_pairs h_settledT) (fun _ _ _ _ _ _ us hl => match us, hl with | [_, _], _ => rfl)
  have h_joined_product := A.d_joined_product.has (P := P) (w := w) (base := base) (ps := ["one", "other"]) X G (fun F => ok_joined_product F T h_need_product h_settledL) (fun _ _ _ _ _ _ us hl => match us, hl with | [_, _], _ => rfl)
  have hk_joined_product := A.d_joined_product.hask (P := P) (w := w) (base := base) (p := "one") (q := "other") X G (fun F => ok_joined_product F T h_need_product h_settledL) (fun _ _ _ _ _ _ _ _ => rfl)
  have h_raw_order := A.d_raw_order.has (P := P) (w := w) (base := base) (ps := ["level", "product", "c"]) X G (fun F => ok_raw_order F T h_normal h_number_sum h_number_product) (fun _ _ _ _ _ _ us hl => match us, hl with | [_, _, _], _ => rfl)
  have h_need_both := A.d_need_both.has (P := P) (w := w) (base := base) (ps := ["level", "product"]) X G (fun F => ok_need_both F T h_need_product h_need_level) (fun _ _ _ _ _ _ us hl => match us, hl with | [_, _], _ => rfl)
  have h_order_at := A.d_order_at.has (P := P) (w := w) (base := base) (ps := ["level", "product", "c"]) X G (fun F => ok_order_at F T h_need_both h_is_integer h_raw_order) (fun _ _ _ _ _ _ us hl => match us, hl with | [_, _, _], _ => rfl)
  have h_law_deck := A.d_law_deck.has (P := P) (w := w) (base := base) (ps := ["_law_script"]) X G (fun F => ok_law_deck F T ) (fun _ _ _ _ _ _ us hl => match us, hl with | [_], _ => rfl)
  have h_law_draw := A.d_law_draw.has (P := P) (w := w) (base := base) (ps := ["_law_deck_here", "_law_many"]) X G (fun F => ok_law_draw F T ) (fun _ _ _ _ _ _ us hl => match us, hl with | [_, _], _ => rfl)
  have h_law_pick := A.d_law_pick.has (P := P) (w := w) (base := base) (ps := ["_law_deck_here", "_law_some"]) X G (fun F => ok_law_pick F T h_law_draw) (fun _ _ _ _ _ _ us hl => match us, hl with | [_, _], _ => rfl)
  have h_law_divisor := A.d_law_divisor.has (P := P) (w := w) (base := base) (ps := ["_law_one", "_law_other"]) X G (fun F => ok_law_divisor F T ) (fun _ _ _ _ _ _ us hl => match us, hl with | [_, _], _ => rfl)
  have h_law_divisors := A.d_law_divisors.has (P := P) (w := w) (base := base) (ps := ["_law_n"]) X G (fun F => ok_law_divisors F T ) (fun _ _ _ _ _ _ us hl => match us, hl with | [_], _ => rfl)
  have h_law_whole := A.d_law_whole.has (P := P) (w := w) (base := base) (ps := ["_law_deck_here", "_law_level_here", "_law_low", "_law_high"]) X G (fun F => ok_law_whole F T h_law_divisors h_law_draw h_law_pick) (fun _ _ _ _ _ _ us hl => match us, hl with | [_, _, _, _], _ => rfl)
  have h_law_level := A.d_law_level.has (P := P) (w := w) (base := base) (ps := ["_law_product"]) X G (fun F => ok_law_level F T h_law_divisor) (fun _ _ _ _ _ _ us hl => match us, hl with | [_], _ => rfl)
  have h_law_joined := A.d_law_joined.has (P := P) (w := w) (base := base) (ps := ["_law_one", "_law_other"]) X G (fun F => ok_law_joined F T ) (fun _ _ _ _ _ _ us hl => match us, hl with | [_, _], _ => rfl)
  have h_law_product_sign := A.d_law_product_sign.has (P := P) (w := w) (base := base) (ps := ["_law_product"]) X G (fun F => ok_law_product_sign F T ) (fun _ _ _ _ _ _ us hl => match us, hl with | [_], _ => rfl)
  have h_law_told := A.d_law_told.has (P := P) (w := w) (base := base) (ps := ["_law_product"]) X G (fun F => ok_law_told F T h_start_of h_product_weight h_product_level h_product_sign) (fun _ _ _ _ _ _ us hl => match us, hl with | [_], _ => rfl)
  have h_law_due := A.d_law_due.has (P := P) (w := w) (base := base) (ps := ["_law_product"]) X G (fun F => ok_law_due F T h_law_level h_law_product_sign) (fun _ _ _ _ _ _ us hl => match us, hl with | [_], _ => rfl)
  have h_law_same := A.d_law_same.hasG (P := P) (w := w) (base := base) (ps := ["_law_told_here", "_law_due_here"]) X G (fun F => ok_law_same F T ) (fun _ _ _ _ _ _ us hl => match us, hl with | [_, _], _ => rfl)
  have h_law_are_joined_right := A.d_law_are_joined_right.hasG (P := P) (w := w) (base := base) (ps := ["_law_one", "_law_other", "_law_level_here"]) X G (fun F => ok_law_are_joined_right F T hk_joined_product h_law_same h_law_joined h_does_fit h_law_told h_law_due h_law_divisor h_joined_sign) (fun _ _ _ _ _ _ us hl => match us, hl with | [_, _, _], _ => rfl)
  have h_law_are_others_right := A.d_law_are_others_right.hasG (P := P) (w := w) (base := base) (ps := ["_law_product", "_law_level_here", "_law_t"]) X G (fun F => ok_law_are_others_right F T hk_turned_product h_law_same h_does_fit h_law_told h_undone_product h_turned_product h_order_at h_start_of h_product_weight h_product_level h_product_sign h_spread_product) (fun _ _ _ _ _ _ us hl => match us, hl with | [_, _, _], _ => rfl)
  exact ok_law F T h_law_deck h_law_draw h_law_whole h_law_are_joined_right h_law_are_others_right
end
end K24
open PySem PySem.W PyProof.Rows
set_option maxHeartbeats 0 in
theorem PySem.Challenge.cw_firstterms_k24_whole_levels_signs_and_we_holds : PySem.Challenge.rw_firstterms_k24_whole_levels_signs_and_we.Holds := by
  w_on; o_law; k_head; (case hw => w_witness2)
  k_fill
  refine K24.walkG (l := PySem.Challenge.rw_firstterms_k24_whole_levels_signs_and_we) (n := 63) (k := 8) (x := "_law_script") (sp := fun w => K24.sp_law _) rfl (by decide) rfl ⟨rfl, by decide, by decide⟩ (fun w h Y => PySem.W.kIn_of Y) ?F (fun _ _ a ns hl hS => ⟨(a, ns), rfl, hS, hl, fun _ => rfl⟩)
  case F =>
    intro w mg fa h KX G hmg
    refine K24.law_all ?A KX G hmg
    constructor
    case d_is_integer => (refine' K24.defIn ?a ?l ?c ?k; (case a => k_is); (case l => k_is); (case c => k_is); (case k => k_is))
    case d_is_between => (refine' K24.defIn ?a ?l ?c ?k; (case a => k_is); (case l => k_is); (case c => k_is); (case k => k_is))
    case d_is_level => (refine' K24.defIn ?a ?l ?c ?k; (case a => k_is); (case l => k_is); (case c => k_is); (case k => k_is))
    case d_least_multiple => (refine' K24.defIn ?a ?l ?c ?k; (case a => k_is); (case l => k_is); (case c => k_is); (case k => k_is))
    case d_primes_of => (refine' K24.defIn ?a ?l ?c ?k; (case a => k_is); (case l => k_is); (case c => k_is); (case k => k_is))
    case d_normal => (refine' K24.defIn ?a ?l ?c ?k; (case a => k_is); (case l => k_is); (case c => k_is); (case k => k_is))
    case d_number_sum => (refine' K24.defIn ?a ?l ?c ?k; (case a => k_is); (case l => k_is); (case c => k_is); (case k => k_is))
    case d_number_product => (refine' K24.defIn ?a ?l ?c ?k; (case a => k_is); (case l => k_is); (case c => k_is); (case k => k_is))
    case d_need_level => (refine' K24.defIn ?a ?l ?c ?k; (case a => k_is); (case l => k_is); (case c => k_is); (case k => k_is))
    case d_need_from => (refine' K24.defIn ?a ?l ?c ?k; (case a => k_is); (case l => k_is); (case c => k_is); (case k => k_is))
    case d_is_free => (refine' K24.defIn ?a ?l ?c ?k; (case a => k_is); (case l => k_is); (case c => k_is); (case k => k_is))
    case d_is_sign => (refine' K24.defIn ?a ?l ?c ?k; (case a => k_is); (case l => k_is); (case c => k_is); (case k => k_is))
    case d_need_sign => (refine' K24.defIn ?a ?l ?c ?k; (case a => k_is); (case l => k_is); (case c => k_is); (case k => k_is))
    case d_sign_for => (refine' K24.defIn ?a ?l ?c ?k; (case a => k_is); (case l => k_is); (case c => k_is); (case k => k_is))
    case d_joined_sign => (refine' K24.defIn ?a ?l ?c ?k; (case a => k_is); (case l => k_is); (case c => k_is); (case k => k_is))
    case d_is_product_value => (refine' K24.defIn ?a ?l ?c ?k; (case a => k_is); (case l => k_is); (case c => k_is); (case k => k_is))
    case d_need_product => (refine' K24.defIn ?a ?l ?c ?k; (case a => k_is); (case l => k_is); (case c => k_is); (case k => k_is))
    case d_step_sum => (refine' K24.defIn ?a ?l ?c ?k; (case a => k_is); (case l => k_is); (case c => k_is); (case k => k_is))
    case d_power_sum => (refine' K24.defIn ?a ?l ?c ?k; (case a => k_is); (case l => k_is); (case c => k_is); (case k => k_is))
    case d_raw_start => (refine' K24.defIn ?a ?l ?c ?k; (case a => k_is); (case l => k_is); (case c => k_is); (case k => k_is))
    case d_raw_weight => (refine' K24.defIn ?a ?l ?c ?k; (case a => k_is); (case l => k_is); (case c => k_is); (case k => k_is))
    case d_is_whole => (refine' K24.defIn ?a ?l ?c ?k; (case a => k_is); (case l => k_is); (case c => k_is); (case k => k_is))
    case d_raw_level => (refine' K24.defIn ?a ?l ?c ?k; (case a => k_is); (case l => k_is); (case c => k_is); (case k => k_is))
    case d_raw_sign => (refine' K24.defIn ?a ?l ?c ?k; (case a => k_is); (case l => k_is); (case c => k_is); (case k => k_is))
    case d_spread_pairs => (refine' K24.defIn ?a ?l ?c ?k; (case a => k_is); (case l => k_is); (case c => k_is); (case k => k_is))
    case d_start_of => (refine' K24.defIn ?a ?l ?c ?k; (case a => k_is); (case l => k_is); (case c => k_is); (case k => k_is))
    case d_product_weight => (refine' K24.defIn ?a ?l ?c ?k; (case a => k_is); (case l => k_is); (case c => k_is); (case k => k_is))
    case d_do_divide => (refine' K24.defIn ?a ?l ?c ?k; (case a => k_is); (case l => k_is); (case c => k_is); (case k => k_is))
    case d_does_fit => (refine' K24.defIn ?a ?l ?c ?k; (case a => k_is); (case l => k_is); (case c => k_is); (case k => k_is))
    case d_product_level => (refine' K24.defIn ?a ?l ?c ?k; (case a => k_is); (case l => k_is); (case c => k_is); (case k => k_is))
    case d_product_sign => (refine' K24.defIn ?a ?l ?c ?k; (case a => k_is); (case l => k_is); (case c => k_is); (case k => k_is))
    case d_settled => (refine' K24.defIn ?a ?l ?c ?k; (case a => k_is); (case l => k_is); (case c => k_is); (case k => k_is))
    case d_joined_product => (refine' K24.defIn ?a ?l ?c ?k; (case a => k_is); (case l => k_is); (case c => k_is); (case k => k_is))
    case d_undone_product => (refine' K24.defIn ?a ?l ?c ?k; (case a => k_is); (case l => k_is); (case c => k_is); (case k => k_is))
    case d_turned_product => (refine' K24.defIn ?a ?l ?c ?k; (case a => k_is); (case l => k_is); (case c => k_is); (case k => k_is))
    case d_spread_product => (refine' K24.defIn ?a ?l ?c ?k; (case a => k_is); (case l => k_is); (case c => k_is); (case k => k_is))
    case d_raw_order => (refine' K24.defIn ?a ?l ?c ?k; (case a => k_is); (case l => k_is); (case c => k_is); (case k => k_is))
    case d_need_both => (refine' K24.defIn ?a ?l ?c ?k; (case a => k_is); (case l => k_is); (case c => k_is); (case k => k_is))
    case d_order_at => (refine' K24.defIn ?a ?l ?c ?k; (case a => k_is); (case l => k_is); (case c => k_is); (case k => k_is))
    case d_law_deck => (refine' K24.defIn ?a ?l ?c ?k; (case a => k_is); (case l => k_is); (case c => k_is); (case k => k_is))
    case d_law_draw => (refine' K24.defIn ?a ?l ?c ?k; (case a => k_is); (case l => k_is); (case c => k_is); (case k => k_is))
    case d_law_pick => (refine' K24.defIn ?a ?l ?c ?k; (case a => k_is); (case l => k_is); (case c => k_is); (case k => k_is))
    case d_law_same => (refine' K24.defIn ?a ?l ?c ?k; (case a => k_is); (case l => k_is); (case c => k_is); (case k => k_is))
    case d_law_divisor => (refine' K24.defIn ?a ?l ?c ?k; (case a => k_is); (case l => k_is); (case c => k_is); (case k => k_is))
    case d_law_divisors => (refine' K24.defIn ?a ?l ?c ?k; (case a => k_is); (case l => k_is); (case c => k_is); (case k => k_is))
    case d_law_whole => (refine' K24.defIn ?a ?l ?c ?k; (case a => k_is); (case l => k_is); (case c => k_is); (case k => k_is))
    case d_law_level => (refine' K24.defIn ?a ?l ?c ?k; (case a => k_is); (case l => k_is); (case c => k_is); (case k => k_is))
    case d_law_joined => (refine' K24.defIn ?a ?l ?c ?k; (case a => k_is); (case l => k_is); (case c => k_is); (case k => k_is))
    case d_law_product_sign => (refine' K24.defIn ?a ?l ?c ?k; (case a => k_is); (case l => k_is); (case c => k_is); (case k => k_is))
    case d_law_told => (refine' K24.defIn ?a ?l ?c ?k; (case a => k_is); (case l => k_is); (case c => k_is); (case k => k_is))
    case d_law_due => (refine' K24.defIn ?a ?l ?c ?k; (case a => k_is); (case l => k_is); (case c => k_is); (case k => k_is))
    case d_law_are_joined_right => (refine' K24.defIn ?a ?l ?c ?k; (case a => k_is); (case l => k_is); (case c => k_is); (case k => k_is))
    case d_law_are_others_right => (refine' K24.defIn ?a ?l ?c ?k; (case a => k_is); (case l => k_is); (case c => k_is); (case k => k_is))
    case d_law => (refine' K24.defIn ?a ?l ?c ?k; (case a => k_is); (case l => k_is); (case c => k_is); (case k => k_is))
    case n_isinstance => k_is
    case n_int => k_is
    case n_bool => k_is
    case n_tuple => k_is
    case n_list => k_is
    case n_dict => k_is
    case n_abs => k_is
    case n_len => k_is
    case n_sum => k_is
    case n_any => k_is
    case n_all => k_is
    case n_max => k_is
    case n_repr => k_is
    case n_sorted => k_is
    case n_range => k_is
    case n_gcd => k_is
    case n_MOST_LEVEL => (refine' K24.cIn ?e; (case e => k_is))
    case n_MOST_SIGN => (refine' K24.cIn ?e; (case e => k_is))
    case n_MOST_PAIRS => (refine' K24.cIn ?e; (case e => k_is))
    case n_MOST_STEP => (refine' K24.cIn ?e; (case e => k_is))
    case n_MOST_POWER => (refine' K24.cIn ?e; (case e => k_is))
