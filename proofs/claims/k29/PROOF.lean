import PyProof.Rows.All
import Wide.All
import OpenK.AllK
import Wide.FinOn
import HandS.ForMost
import HandS.Defaults
import HandS.Lambda
import HandS.EndTab
import KE.SortKeyHeap
import HandS.IsInst
import HandS.Evl
import HandS.More
import HandS.EndOwn
import PySem.Challenge.RW_fairbourse_k29_book_with_stops_whole_mod

section
set_option Elab.async false
set_option maxRecDepth 100000
set_option maxHeartbeats 2000000
/-! rules that the kit lacks -/
namespace K29
open PySem PySem.Spec PyProof.Rows L2

section
open PySem.MeetsSeq PySem.SeqAt
open PySem.AutoSeq1 (wpAny_loadPart')
theorem remove_loopAt (l : Addr) (items : Array Value) (n : Nat) (x : Value) (e : Value → Bool) (j : Nat) (hj : j < items.size) (hit : e items[j] = true) (k : Nat) (hs1 : items.size ≤ sizeLine) :
    ∀ i : Nat, j - i = k → i ≤ j → (∀ m (hm : m < items.size), i ≤ m → m < j → e items[m] = false) → Meets (Builtin.«list.remove.loop» ⟨[.ref l, x, rawInt i], []⟩)
      (fun A R s => s.heap.get? l = some { cls := .type "list", dict := none, data := .seq items n, slots := #[] } ∧ (∀ y, y ∈ items → EqAt A.in1 s y x (e y)) ∧ R (.ok (.ret .none)) { s with heap := s.heap.update l (Obj.mapSeq fun xs => xs.eraseIdxIfInBounds j) }) := by
  induction k with
  | zero =>
    intro i hk hij hno prog w A R s h
    obtain ⟨hp, g, d, tk, os⟩ := s; obtain ⟨hl, he, h⟩ := h
    have hij' : i = j := by omega
    subst hij'
    wp_walk using wpAny_loadPart' hl
    have hi : items[((i : Nat) : Int).toNat]? = some items[i] := by simp [hj]
    rw [hi]
    refine wpAny_bind (he _ (Array.getElem_mem hj) prog w _ _ ?_)
    rw [hit]
    have hz' : (items.eraseIdxIfInBounds i).size ≤ sizeLine + 1 := Nat.le_trans (size_erased items _) (Nat.le_succ_of_le hs1)
    wp_walk using (wpAny_updateSeq hl rfl (hz := hs1) (_hz' := hz')), wpAny_loadPart' hl
    simpa using h
  | succ k ih =>
    intro i hk hij hno prog w A R s h
    obtain ⟨hp, g, d, tk, os⟩ := s; obtain ⟨hl, he, h⟩ := h
    have hlt : i < items.size := by omega
    wp_walk using wpAny_loadPart' hl
    have hi : items[((i : Nat) : Int).toNat]? = some items[i] := by simp [hlt]
    have hc : ((i : Int) + 1) = ((i + 1 : Nat) : Int) := by push_cast; rfl
    rw [hi]
    refine wpAny_bind (he _ (Array.getElem_mem hlt) prog w _ _ ?_)
    rw [hno i hlt (Nat.le_refl _) (by omega)]
    wp_walk
    rw [hc]
    exact ⟨plainId_quiet plain_remove_loop _, codeAny_builtin entry_remove_loop (by
      rw [Around.under_plainId plain_remove_loop _]
      exact ih (i + 1) (by omega) (by omega) (fun m hm h1 h2 => hno m hm (by omega) h2) prog w A R _ ⟨hl, he, h⟩)⟩
theorem list_removeAt (l : Addr) (items : Array Value) (n : Nat) (x : Value) (e : Value → Bool) (j : Nat) (hj : j < items.size)
    (hit : e items[j] = true) (hno : ∀ m (hm : m < items.size), m < j → e items[m] = false) (hs1 : items.size ≤ sizeLine) :
    Meets (Builtin.«list.remove» ⟨[.ref l, x], []⟩)
      (fun A R s => s.heap.get? l = some { cls := .type "list", dict := none, data := .seq items n, slots := #[] } ∧ (∀ y, y ∈ items → EqAt A.in1 s y x (e y)) ∧ R (.ok (.ret .none)) { s with heap := s.heap.update l (Obj.mapSeq fun xs => xs.eraseIdxIfInBounds j) }) := by
  intro prog w A R s h
  obtain ⟨hp, g, d, tk, os⟩ := s; obtain ⟨hl, he, h⟩ := h
  wp_walk using wpAny_loadPart' hl
  exact ⟨plainId_quiet plain_remove_loop _, codeAny_builtin entry_remove_loop (by
    rw [Around.under_plainId plain_remove_loop _]
    exact remove_loopAt l items n x e j hj hit _ hs1 0 rfl (Nat.zero_le _) (fun m hm _ h2 => hno m hm h2) prog w A R _ ⟨hl, he, h⟩)⟩
end

section
variable {X : Cx}
/-- xs.remove(o), o data of any depth that stands in xs: its first place is left out -/
def rRemD (K : PySem.W.Frag) : V → List V → Hp → VK → Prop := fun x vs H Q => ∃ (l : Addr) (xs : List V) (y : V) (d : PyData) (ds : List PyData) (j : Nat) (z : PyData), x = V.ref l ∧ vs = [y] ∧ H l = some (.lst xs) ∧ Dp K H (V.ref l) (.list ds) ∧ Dp K H y d ∧
  SeqAt.shaped (.list ds) = true ∧ SeqAt.shaped d = true ∧ ds[j]? = some z ∧ PyData.eqv z d = true ∧ (∀ (m : Nat) (z' : PyData), m < j → ds[m]? = some z' → PyData.eqv z' d = false) ∧ Q .non (upd H l (.lst (xs.eraseIdx j)))
theorem mt_removeD (hu : X.A.units + 65 < cLine) : MtR X "list.remove" (rRemD X.K) := by
  intro pins s σ H x xs0 v us Q I rx rxs h
  obtain ⟨a, xs, y, d, ds, j, z, rfl, rfl, hH, hl, hy, sl, sd, hz, hzj, hno, q⟩ := h
  cases rx
  obtain ⟨uy, rfl, ry⟩ := rxs.one
  obtain ⟨bs, r1⟩ := Dp.reads I d y uy hy ry
  have hxs : PyData.canLayAll0 ds = true := SeqAt.canLay_of_shaped sl
  have hroom : X.A.units + 1 + min (PyData.depthAll ds) d.depth < cLine := room_in_shaped sd hu
  obtain ⟨zl, its, n, rv, hlen, ho⟩ := I.lstM hH
  cases hl with
  | lst hs ha =>
    have exs : ∀ {ys : List V}, SqL X.K H a ys → ys = xs := by
      intro ys h
      rcases h with h | h
      · rcases h with h | ⟨o, h⟩
        · rw [hH] at h
          cases h
          rfl
        · rw [hH] at h
          cases h
      · obtain ⟨o, us, n', lk, _⟩ := h
        have := I.kIn _ _ lk
        exact absurd hH (by
          have hb := (I.bs a o (I.mod.kin a o lk)).2
          rw [hb]
          intro q
          cases q)
    cases exs hs
    obtain ⟨as, h4⟩ := Dp.readsAll I ds _ its ha rv
    have hn : its.length = ds.length := SeqAt.ReadsAll.length ds its as h4
    have hmap : its.map (SeqAt.readOf s.heap) = ds := SeqAt.readsAll_map ds its as hxs h4
    obtain ⟨hjd, _⟩ := List.getElem?_eq_some_iff.mp hz
    have hjl : j < its.length := by omega
    have hj : j < its.toArray.size := by simpa using hjl
    have at_ : ∀ (m : Nat) (hm : m < its.toArray.size) (z' : PyData), ds[m]? = some z' → SeqAt.readOf s.heap its.toArray[m] = z' := by
      intro m hm z' hz'
      have hml : m < its.length := by simpa using hm
      rw [← hmap, List.getElem?_map, List.getElem?_eq_getElem hml] at hz'
      have e1 : SeqAt.readOf s.heap its[m] = z' := Option.some.inj (show some (SeqAt.readOf s.heap its[m]) = some z' from hz')
      simpa using e1
    refine call_meets PySem.F.slot_list_remove ⟨_, ho, rfl⟩ PySem.F.entry_list_remove (PySem.F.args_list_remove_2 _ _)
      (list_removeAt a its.toArray n uy (fun u => PyData.eqv (SeqAt.readOf s.heap u) d) j hj ?_ ?_ (by rw [List.size_toArray, ← hlen]; exact zl)) ⟨ho, SeqAt.items_eqAt (vs := its.toArray) (show ReadsAll s.heap its.toArray.toList ds as from h4) r1 hxs (SeqAt.canLay_of_shaped sd) hroom, ?_⟩
    · show PyData.eqv (SeqAt.readOf s.heap its.toArray[j]) d = true
      rw [at_ j hj z hz]
      exact hzj
    · intro m hm hmj
      have hmd : m < ds.length := by
        have : m < its.length := by simpa using hm
        omega
      have hz' : ds[m]? = some ds[m] := List.getElem?_eq_getElem hmd
      show PyData.eqv (SeqAt.readOf s.heap its.toArray[m]) d = false
      rw [at_ m hm _ hz']
      exact hno m _ hmj hz'
    · refine ⟨.non, _, I.lset (its' := its.eraseIdx j) hH ho ?_ (rv.eraseIdx j) ?_, rfl, q⟩
      · show its.toArray.eraseIdxIfInBounds j = (its.eraseIdx j).toArray
        rw [List.eraseIdxIfInBounds_toArray]
      · exact Nat.le_trans (len_erase _ j) zl
end

/-! ### o.m(e, .., k = v, ..), o of an own class -/
def tMethN (C : Addr) (m : Str) (n k : Nat) (sp : Sp) (gV : List V → List V → List V) (E : XK) (to : TE) (t tk : TA) : TE := fun σ H Q => to σ H fun x H0 => ∃ a dx fs, x = .ref a ∧ H0 a = some (.ins C dx fs) ∧ fs.lookup m = none ∧
  t σ H0 fun vs H1 => tk σ H1 fun zs H2 => vs.length = n ∧ zs.length = k ∧ sp (gV (.ref a :: vs) zs) H2 Q E
section
variable {X : Cx} {CX : CXT} {k n : Nat} {f C : Addr} {fd : FuncData} {ps ks : List Str} {sp : Sp} {E : XK} {m : Str} {apos pos : Pos} {o e : Expr} {es : List Expr} {kws : List Keyword} {to : TE} {t tk : TA} {g : List Value → List Value → List Value} {gV : List V → List V → List V}
theorem pe_methN {pl : Sem Bool} (ho : PE X o to) (c : Cls X.K C) (hm : Meth X.K C m f) (F : FnOk X.prog X.w X.K X.mg X.base CX k f fd ps sp) (hr : Room k X.A) (hb : KBn X.K fd ps (n + 1) ks g gV) (hx : Passes CX X E)
    (ha : PA X (e :: es) t) (hkw : PK X kws tk) (hall : (backToKw pos (keywordEach kws X.env)).all (·.1.isSome) = true := by rfl) (hks : (backToKw pos (keywordEach kws X.env)).filterMap (·.1) = ks := by rfl)
    (he : starEach (e :: es) X.env = (false, eval e X.env) :: starEach es X.env := by rfl)
    (hpl : ((backTo pos (starEach (e :: es) X.env)).any (·.1) || (backToKw pos (keywordEach kws X.env)).any (·.1.isNone)) = false := by rfl)
    (ht : eval (.Call (.Attribute o m apos) (e :: es) kws pos) X.env = (do
      let ov ← eval o X.env
      standAt apos.atName
      let (f, first) ← holding [ov] (getMethod ov m pl)
      callWith pos f first (backTo pos (starEach (e :: es) X.env)) (backToKw pos (keywordEach kws X.env))) := by rfl) :
    PE X (.Call (.Attribute o m apos) (e :: es) kws pos) (tMethN C m n ks.length sp gV E to t tk) := by
  refine ⟨fun pins s σ H Q I h => ?_⟩
  refine PySem.W.methodCall_KW (pl := pl) (thn (ho.run pins s σ H _ I h) fun u s1 ⟨x, H1, I1, rx, a, dx, fs, ex, ea, l, q⟩ => ?_) ht
  subst ex
  obtain rfl : u = Value.ref a := rx
  refine getmeth_ok I1 ea c hm l ?_
  refine PySem.W.callWith_KW (first := [.ref a]) (h₀ := X.base) I.ok.mod.kin hm.kp hall (thn (ha.run pos pins s1 σ H1 _ I1 q) fun us s2 ⟨vs, H2, I2, r, q2⟩ => ?_) hpl he
  refine thn (hkw.run pos pins s2 σ H2 _ I2 q2) fun ws s3 ⟨zs, H3, I3, rz, l1, l2, q3⟩ => ⟨I3.kIn, ?_⟩
  rw [hks]
  exact run_fnN (us := .ref a :: us) (vs := .ref a :: vs) F hr hb hx I3 (.cons rfl r) rz (by simpa using l1) l2 q3
end
end K29
end

section
set_option Elab.async false
set_option maxRecDepth 100000
set_option maxHeartbeats 2000000
/-! sorted(xs, key=lambda t: t[0]) of tuples whose first items ascend -/
namespace K29
open PySem PySem.Spec PyProof.Rows L2 LamX

theorem refs_of : ∀ {as : List Addr} {us : List Value}, Vals (as.map V.ref) us → us = as.map Value.ref
  | [], us, h => by
    cases h
    rfl
  | a :: r, us, h => by
    cases h with
    | cons x t =>
      cases x
      rw [refs_of t]
      rfl

theorem each_eq {vs out : List Value} {l : List Nat} (h : PySem.W.EachIs (fun v (i : Nat) => vs[i]? = some v) out l) (hl : l = List.range vs.length) : out = vs := by
  subst hl
  have hlen : out.length = vs.length := by
    have := h.length
    rw [List.length_range] at this
    exact this
  refine List.ext_getElem? fun i => ?_
  by_cases hi : i < out.length
  · have h1 : out[i]? = some out[i] := List.getElem?_eq_getElem hi
    have h2 : (List.range vs.length)[i]? = some i := by
      rw [List.getElem?_range (by omega)]
    have hz : (out[i], i) ∈ out.zip (List.range vs.length) := List.mem_of_getElem? (i := i) (by rw [List.getElem?_zip_eq_some]; exact ⟨h1, h2⟩)
    rw [h1]
    exact (h.zip _ hz).symm
  · rw [List.getElem?_eq_none (by omega), List.getElem?_eq_none (by omega)]

theorem each_range (vs : List Value) : PySem.W.EachIs (fun v (i : Nat) => vs[i]? = some v) vs (List.range vs.length) := by
  have go : ∀ (n : Nat) (l : List Value), (∀ i, i < l.length → vs[n + i]? = l[i]?) → PySem.W.EachIs (fun v (i : Nat) => vs[i]? = some v) l (List.range' n l.length) := by
    intro n l
    induction l generalizing n with
    | nil => exact fun _ => .nil
    | cons v l ih =>
      intro h
      rw [List.length_cons, List.range'_succ]
      refine .cons ?_ (ih (n + 1) fun i hi => ?_)
      · have := h 0 (by simp)
        simpa using this
      · have := h (i + 1) (by simp; omega)
        rw [show n + 1 + i = n + (i + 1) by omega, this]
        rfl
  have := go 0 vs (fun i _ => by rw [Nat.zero_add])
  rw [List.range_eq_range']
  exact this
section
variable {X : Cx}
def tSortLam (K : PySem.W.Frag) (T : List (Addr × Str)) (te : TE) : TE := fun σ H Q => tCons te tNil σ H fun vs H1 => ∃ (l : Addr) (as : List Addr) (ns : List Int), vs = [V.ref l] ∧ SqL K H1 l (as.map V.ref) ∧ as.length = ns.length ∧
  (∀ (i : Nat) (a : Addr) (n : Int), as[i]? = some a → ns[i]? = some n → ∃ rest, H1 a = some (.tup (.int n :: rest))) ∧ ns.Pairwise (· < ·) ∧ Tabs T H1 ∧
  ∀ H2, ExtN H1 H2 → Tabs T H2 → ∀ q, H2 q = none → Q (.ref q) (upd H2 q (.lst (as.map V.ref)))

/-- the lambda's call: the first item of a tuple -/
theorem lam_turn {f c' : Addr} {params : Arguments} {scope : Scope} {a : Str} {j : Nat} {p1 p2 p3 : Pos} {q : Str} {cl : List (Str × Addr)} {pm ctv : Value} {pins : List (Addr × Obj)} {σ : L2.St} {H : Hp} {s : Shared} {A : Around} {t : Addr} {n : Int} {rest : List V}
    (I : Inv X pins σ H s) (hf : s.heap.get? f = some (PySem.W.kla_obj "<lambda>" q params (.Subscript (.Name a p1) (.Constant (.int 0) j p2) p3) scope cl pm c' ctv)) (hc : H c' = some (CodeO c' q))
    (kind : scope.kind = .function) (co : scope.isCoroutine = false) (gen : scope.isGenerator = false) (nocell : ∀ x ∈ scope.names, x.2 ≠ .cell) (hloc : scope.names.lookup a = some .local) (hda : (a == ("__debug__" : Str)) = false)
    (hbind : ∀ v : Value, bindArgs (PySem.W.kla_fn "<lambda>" q params (.Subscript (.Name a p1) (.Constant (.int 0) j p2) p3) scope cl pm (.ref c') ctv) ⟨[v], []⟩ = pure [(a, v)])
    (hd : A.depth < recursionLimit) (ht : H t = some (.tup (.int n :: rest))) :
    wpAny (model X.prog X.w) A (call (.ref f) [.ref t]) (PySem.W.KeyPure (.int n) s) (fun _ _ => False) s := by
  obtain ⟨⟨oc, vs, tk, hoc, hdc, hvc⟩, _, _⟩ := I.hok c' _ hc
  refine wpAny_call ?_
  refine PySem.W.kla_callFunE hd hf rfl co gen rfl ⟨c', oc, vs, tk, rfl, hoc, hdc, hvc⟩ ?_
  rw [hbind]
  refine wpAny_pure (wpAny_newFunctionEnv nocell (fun x hx => ?_) (fun h₁ hns hsb => ⟨I.nolimit.fresh _ hsb, ?_⟩) kind)
  · rcases List.mem_singleton.mp hx with rfl
    exact hloc
  · have kp : ∀ b o, s.heap.get? b = some o → h₁.get? b = some o := fun b o e => hsb.extBut b o (Nat.ne_of_lt (Heap.lt_size e)) (Heap.get?_push_of_some _ e)
    refine PySem.W.kla_codeExpr ?_
    refine Subscript_ ?_
    refine wpAny_Name (wpAny_loadName_local (v := .ref t) kind hloc hns (by simp) ?_) hda
    refine wpAny_Constant_int ?_
    obtain ⟨its, r, pl, hz⟩ := I.tuple (X := X) (SqT.of (K := X.K) ht)
    cases r with
    | cons r0 r1 =>
      rename_i u us
      obtain ⟨tn, rfl⟩ := r0
      obtain ⟨o, ho, hcl, n', hdt⟩ := pl
      have pl2 : IsTup h₁ t (Value.int n tn :: us).toArray := ⟨o, kp _ _ ho, hcl, n', hdt⟩
      refine subscriptTail_builtinR (x := Value.int n tn) pl2.typeIs slot_tuple_getitem.lookup (getItem_tuple (j := 0) pl2 (by decide) (by decide) (by simp [seqIndex?]) (by simp) ⟨rfl, ?_⟩)
      exact ⟨h₁, _, rfl, kp, Reads.int n tn⟩
/-- sorted(e, key=lambda a: a[0]) -/
theorem pe_sortedLam {T : List (Addr × Str)} {c P : Addr} {a : Str} {j : Nat} {p1 p2 p3 lpos kpos p pos : Pos} {params : Arguments} {scope : Scope} {e : Expr} {te : TE}
    (hg : Gl X "sorted") (hm : X.mg "sorted" = none) (ha : PA X [e] (tCons te tNil)) (hr : Room 4 X.A)
    (TB : TabB X.base X.mg c P) (hcode : X.env.code = .ref c) (hmT : (P, X.env.qual ++ "<lambda>") ∈ T) (hu : ∀ p ∈ T, p.1 = P → p.2 = X.env.qual ++ "<lambda>")
    (kind : scope.kind = .function) (co : scope.isCoroutine = false) (gen : scope.isGenerator = false) (nocell : ∀ x ∈ scope.names, x.2 ≠ .cell) (nofree : ∀ x ∈ scope.names, x.2 ≠ .free) (hloc : scope.names.lookup a = some .local) (hda : (a == ("__debug__" : Str)) = false)
    (hdef : defaultsOf params X.env = ([], []))
    (hbind : ∀ (q : Str) (cl : List (Str × Addr)) (pm cv ctv v : Value), bindArgs (PySem.W.kla_fn "<lambda>" q params (.Subscript (.Name a p1) (.Constant (.int 0) j p2) p3) scope cl pm cv ctv) ⟨[v], []⟩ = pure [(a, v)])
    (hks : (backToKw pos (keywordEach [⟨some "key", .Lambda params (.Subscript (.Name a p1) (.Constant (.int 0) j p2) p3) scope lpos, kpos⟩] X.env)).filterMap (·.1) = [Str.ofString "key"] := by rfl)
    (he1 : backTo pos (starEach [e] X.env) = (false, eval e X.env) :: backTo pos (starEach [] X.env) := by rfl) (hpl : (backTo pos (starEach [e] X.env)).any (·.1) = false := by rfl)
    (hall : (backToKw pos (keywordEach [⟨some "key", .Lambda params (.Subscript (.Name a p1) (.Constant (.int 0) j p2) p3) scope lpos, kpos⟩] X.env)).all (·.1.isSome) = true := by rfl)
    (hnone : (backToKw pos (keywordEach [⟨some "key", .Lambda params (.Subscript (.Name a p1) (.Constant (.int 0) j p2) p3) scope lpos, kpos⟩] X.env)).any (·.1.isNone) = false := by rfl) :
    PE X (.Call (.Name "sorted" p) [e] [⟨some "key", .Lambda params (.Subscript (.Name a p1) (.Constant (.int 0) j p2) p3) scope lpos, kpos⟩] pos) (tSortLam X.K T te) := by
  refine ⟨fun pins s σ H Q I h => ?_⟩
  refine wpAny_Call_Name_kw (ld_blt I hg hm PyProof.Rows.boot_sorted ?_ (by decide) (by decide))
  refine PyProof.Rows.callWith_kw (thn (ha.run pos pins s σ H _ I h) fun us s1 ⟨vs, H1, I1, r1, q1⟩ => ?_) he1 hpl hall hnone
  obtain ⟨l, as, ns, ex2, hl, hlen, htup, hsrt, hT, q⟩ := q1
  subst ex2
  obtain ⟨u0, rfl, ru⟩ := r1.one
  cases ru
  show wpAny _ _ (evalAll ((do let v ← eval (.Lambda params (.Subscript (.Name a p1) (.Constant (.int 0) j p2) p3) scope lpos) X.env; standAt pos; pure v) :: [])) _ _ s1
  refine wpAny_evalAll_cons (wpAny_bind (lam_make2 I1 TB hcode hmT hu hT hdef (fun y hy e => absurd e (nofree y hy)) fun f c' pm ctv H2 s2 I2 eN T2 hf hfn hfr hco => wpAny_bind (wpAny_standAt (wpAny_pure (wpAny_evalAll_nil ?_)))))
  rw [hks]
  have hl2 : SqL X.K H2 l (as.map V.ref) := by
    rcases hl with (hl | ⟨o, hl⟩) | hl
    · exact .inl (.inl (eN _ _ hl (fun ps z => by cases z)))
    · exact .inl (.inr ⟨o, eN _ _ hl (fun ps z => by cases z)⟩)
    · exact .inr hl
  obtain ⟨its, rv, pl, hz⟩ := I2.list hl2
  have eits := refs_of rv
  have hlenI : its.length = as.length := by rw [eits, List.length_map]
  rw [List.length_map] at hz
  have eB : ((List.range its.length).map fun i => PyData.int (ns.getD i 0)).length = its.length := by simp
  refine PySem.W.sorted_key_data (β := Nat) (vs := its) (bs := List.range its.length) (R := fun v i => its[i]? = some v) (b := false) (fun i => PyData.int (ns.getD i 0)) pl.isList (each_range its) ?_ (PySem.W.Sortable.others (enc := fun i : Nat => PyData.int (ns.getD i 0)) fun b => And.intro (fun z => by cases z) (fun xs z => by cases z)) (by rw [List.length_range, hlenI]; exact hz) (fun x _ => ?_)
    (PyProof.Rows.ksk_s1 _ _) (fun _ => PyProof.Rows.ksk_l1 _ _) (fun x => PyProof.Rows.ksk_t1 f x) (fun v i hR hi h' tk kp => ?_) fun out cc h' tk kp hfr2 hD hol each => ?_
  · intro d hd d' hd'
    obtain ⟨i, _, rfl⟩ := List.mem_map.mp hd
    obtain ⟨i', _, rfl⟩ := List.mem_map.mp hd'
    rfl
  · have := hr.un
    show X.A.units + 2 + 0 < cLine
    omega
  · have hR' : its[i]? = some v := hR
    have hil : i < its.length := (List.getElem?_eq_some_iff.mp hR').1
    obtain ⟨t, ht⟩ : ∃ t, as[i]? = some t := ⟨_, List.getElem?_eq_getElem (by omega)⟩
    obtain ⟨n, hn⟩ : ∃ n, ns[i]? = some n := ⟨_, List.getElem?_eq_getElem (by omega)⟩
    have ev : v = Value.ref t := by
      rw [eits, List.getElem?_map, ht] at hR'
      exact (Option.some.inj hR').symm
    subst ev
    obtain ⟨rest, hrest⟩ := htup i t n ht hn
    have en : ns.getD i 0 = n := by rw [List.getD_eq_getElem?_getD, hn] <;> rfl
    have hrest2 : H2 t = some (.tup (.int n :: rest)) := eN _ _ hrest (fun ps z => by cases z)
    have I3 : L2.Inv X pins σ H2 { s2 with heap := h', toks := tk } := I2.kept kp
    show wpAny _ _ _ (PySem.W.KeyPure (PyData.int (ns.getD i 0)) _) _ _
    rw [en]
    exact lam_turn (A := X.A.in1.in1) I3 (kp _ _ hf) hco kind co gen nocell hloc hda (fun v => hbind _ _ _ _ _ _) ((hr.in1).in1).depth hrest2
  · have eo : out = its := by
      refine each_eq each ?_
      refine List.mergeSort_of_pairwise ?_
      rw [PySem.W.dataLe_int]
      rw [List.pairwise_iff_getElem]
      intro i k hi hk hik
      rw [List.length_range] at hi hk
      simp only [List.getElem_range, decide_eq_true_eq]
      have hp := List.pairwise_iff_getElem.mp hsrt i k (by omega) (by omega) hik
      rw [List.getD_eq_getElem?_getD, List.getD_eq_getElem?_getD, List.getElem?_eq_getElem (by omega), List.getElem?_eq_getElem (by omega)]
      exact Int.le_of_lt hp
    subst eo
    refine ⟨.ref _, upd H2 (s2.heap.objs.size + 1) (.lst (as.map V.ref)), I2.laid (t' := tk) kp (Nat.le_succ _) ⟨by rw [List.length_map]; exact hz, out, cc, rv, hD⟩, rfl, q H2 eN T2 _ (I2.hok.fresh (Nat.le_succ _))⟩
end
end K29
end

section
set_option Elab.async false
set_option maxRecDepth 100000
/-! the text by places, and what the walk asks of it -/
namespace K29
open PySem L2
def top (i : Nat) : Stmt := PySem.Challenge.pw_fairbourse_k29_book_with_stops_whole_mod.main.body.getD i (.Pass ⟨0, 0, 0, 0⟩)
abbrev s_is_integer : Stmt := top 10
abbrev s_in_range : Stmt := top 11
abbrev s_Oinit : Stmt := inClass (top 12) 0
abbrev s_Oshow_next_part : Stmt := inClass (top 12) 1
abbrev s_Otake : Stmt := inClass (top 12) 2
abbrev s_Oreduce : Stmt := inClass (top 12) 3
abbrev s_Oentry : Stmt := inClass (top 12) 4
abbrev s_other_side : Stmt := top 13
abbrev s_is_better : Stmt := top 14
abbrev s_accepts : Stmt := top 15
abbrev s_check_order : Stmt := top 16
abbrev s_check_stop : Stmt := top 17
abbrev s_Rinit : Stmt := inClass (top 19) 0
abbrev s_Sinit : Stmt := inClass (top 20) 0
abbrev s_Sis_reached : Stmt := inClass (top 20) 1
abbrev s_Sentry : Stmt := inClass (top 20) 2
abbrev s_Binit : Stmt := inClass (top 21) 0
abbrev s_Borders : Stmt := inClass (top 21) 1
abbrev s_Bstops : Stmt := inClass (top 21) 2
abbrev s_Bsubmit : Stmt := inClass (top 21) 5
abbrev s_Bsubmit_stop : Stmt := inClass (top 21) 7
abbrev s_Bcancel : Stmt := inClass (top 21) 8
abbrev s_Bamend : Stmt := inClass (top 21) 9
abbrev s_Bnew_number : Stmt := inClass (top 21) 10
abbrev s_Bowned : Stmt := inClass (top 21) 11
abbrev s_Bremove : Stmt := inClass (top 21) 12
abbrev s_Binsert : Stmt := inClass (top 21) 13
abbrev s_Benter : Stmt := inClass (top 21) 15
abbrev s_Bmatch : Stmt := inClass (top 21) 16
abbrev s_Bsettle_first : Stmt := inClass (top 21) 17
abbrev s_Btrigger : Stmt := inClass (top 21) 18
abbrev s_Bfirst_reached : Stmt := inClass (top 21) 19
abbrev s_law_house : Stmt := top 23
abbrev s_law_resting_side : Stmt := top 24
abbrev s_law_fits : Stmt := top 25
abbrev s_law_first : Stmt := top 26
abbrev s_law_visible : Stmt := top 27
abbrev s_law_trade : Stmt := top 28
abbrev s_law_enter : Stmt := top 30
abbrev s_law_listed : Stmt := top 31
abbrev s_law_reached : Stmt := top 32
abbrev s_law_last : Stmt := top 33
abbrev s_law_triggered : Stmt := top 34
abbrev s_law_told : Stmt := top 35
abbrev s_law_submit : Stmt := top 36
abbrev s_law_cancel : Stmt := top 37
abbrev s_law_amend : Stmt := top 38
abbrev s_law : Stmt := top 39
/-- where the text stands -/
structure Ad where
  CO : Addr
  CR : Addr
  CS : Addr
  CB : Addr
  f_is_integer : Addr
  d_is_integer : FuncData
  f_in_range : Addr
  d_in_range : FuncData
  f_Oinit : Addr
  d_Oinit : FuncData
  f_Oshow_next_part : Addr
  d_Oshow_next_part : FuncData
  f_Otake : Addr
  d_Otake : FuncData
  f_Oreduce : Addr
  d_Oreduce : FuncData
  f_Oentry : Addr
  d_Oentry : FuncData
  f_other_side : Addr
  d_other_side : FuncData
  f_is_better : Addr
  d_is_better : FuncData
  f_accepts : Addr
  d_accepts : FuncData
  f_check_order : Addr
  d_check_order : FuncData
  f_check_stop : Addr
  d_check_stop : FuncData
  f_Rinit : Addr
  d_Rinit : FuncData
  f_Sinit : Addr
  d_Sinit : FuncData
  f_Sis_reached : Addr
  d_Sis_reached : FuncData
  f_Sentry : Addr
  d_Sentry : FuncData
  f_Binit : Addr
  d_Binit : FuncData
  f_Borders : Addr
  d_Borders : FuncData
  f_Bstops : Addr
  d_Bstops : FuncData
  f_Bsubmit : Addr
  d_Bsubmit : FuncData
  f_Bsubmit_stop : Addr
  d_Bsubmit_stop : FuncData
  f_Bcancel : Addr
  d_Bcancel : FuncData
  f_Bamend : Addr
  d_Bamend : FuncData
  f_Bnew_number : Addr
  d_Bnew_number : FuncData
  f_Bowned : Addr
  d_Bowned : FuncData
  f_Bremove : Addr
  d_Bremove : FuncData
  f_Binsert : Addr
  d_Binsert : FuncData
  f_Benter : Addr
  d_Benter : FuncData
  f_Bmatch : Addr
  d_Bmatch : FuncData
  f_Bsettle_first : Addr
  d_Bsettle_first : FuncData
  f_Btrigger : Addr
  d_Btrigger : FuncData
  f_Bfirst_reached : Addr
  d_Bfirst_reached : FuncData
  f_law_house : Addr
  d_law_house : FuncData
  f_law_resting_side : Addr
  d_law_resting_side : FuncData
  f_law_fits : Addr
  d_law_fits : FuncData
  f_law_first : Addr
  d_law_first : FuncData
  f_law_visible : Addr
  d_law_visible : FuncData
  f_law_trade : Addr
  d_law_trade : FuncData
  f_law_enter : Addr
  d_law_enter : FuncData
  f_law_listed : Addr
  d_law_listed : FuncData
  f_law_reached : Addr
  d_law_reached : FuncData
  f_law_last : Addr
  d_law_last : FuncData
  f_law_triggered : Addr
  d_law_triggered : FuncData
  f_law_told : Addr
  d_law_told : FuncData
  f_law_submit : Addr
  d_law_submit : FuncData
  f_law_cancel : Addr
  d_law_cancel : FuncData
  f_law_amend : Addr
  d_law_amend : FuncData
  f_law : Addr
  d_law : FuncData
/-- what the walk asks of the text as the top has made it -/
structure Txt (K : PySem.W.Frag) (mg : Str → Option Value) (A : Ad) : Prop where
  cO : Cls K A.CO
  mO : mg "Order" = some (.ref A.CO)
  kO : Mk K A.CO A.f_Oinit
  nO_number : NoAttr K A.CO "number"
  nO_house : NoAttr K A.CO "house"
  nO_side : NoAttr K A.CO "side"
  nO_price : NoAttr K A.CO "price"
  nO_left : NoAttr K A.CO "left"
  nO_shown : NoAttr K A.CO "shown"
  nO_visible : NoAttr K A.CO "visible"
  cR : Cls K A.CR
  mR : mg "Report" = some (.ref A.CR)
  kR : Mk K A.CR A.f_Rinit
  nR_number : NoAttr K A.CR "number"
  nR_house : NoAttr K A.CR "house"
  nR_side : NoAttr K A.CR "side"
  nR_fills : NoAttr K A.CR "fills"
  nR_removed : NoAttr K A.CR "removed"
  nR_resting : NoAttr K A.CR "resting"
  cS : Cls K A.CS
  mS : mg "Stop" = some (.ref A.CS)
  kS : Mk K A.CS A.f_Sinit
  nS_number : NoAttr K A.CS "number"
  nS_house : NoAttr K A.CS "house"
  nS_side : NoAttr K A.CS "side"
  nS_trigger : NoAttr K A.CS "trigger"
  nS_price : NoAttr K A.CS "price"
  nS_quantity : NoAttr K A.CS "quantity"
  cB : Cls K A.CB
  mB : mg "Book" = some (.ref A.CB)
  kB : Mk K A.CB A.f_Binit
  nB_resting : NoAttr K A.CB "_resting"
  nB_stops : NoAttr K A.CB "_stops"
  nB_next_number : NoAttr K A.CB "_next_number"
  nB_last : NoAttr K A.CB "last"
  F_is_integer : Fun K "is_integer" "is_integer" s_is_integer A.f_is_integer A.d_is_integer
  b_is_integer : Binds K A.d_is_integer ["value"] []
  g_is_integer : mg "is_integer" = some (.ref A.f_is_integer)
  F_in_range : Fun K "in_range" "in_range" s_in_range A.f_in_range A.d_in_range
  b_in_range : Binds K A.d_in_range ["value"] []
  g_in_range : mg "in_range" = some (.ref A.f_in_range)
  F_Oinit : Fun K "__init__" "Order.__init__" s_Oinit A.f_Oinit A.d_Oinit
  b_Oinit : Binds K A.d_Oinit ["self", "number", "house", "side", "price", "quantity", "shown"] []
  F_Oshow_next_part : Fun K "show_next_part" "Order.show_next_part" s_Oshow_next_part A.f_Oshow_next_part A.d_Oshow_next_part
  b_Oshow_next_part : Binds K A.d_Oshow_next_part ["self"] []
  h_Oshow_next_part : Meth K A.CO "show_next_part" A.f_Oshow_next_part
  F_Otake : Fun K "take" "Order.take" s_Otake A.f_Otake A.d_Otake
  b_Otake : Binds K A.d_Otake ["self", "quantity"] []
  h_Otake : Meth K A.CO "take" A.f_Otake
  F_Oreduce : Fun K "reduce" "Order.reduce" s_Oreduce A.f_Oreduce A.d_Oreduce
  b_Oreduce : Binds K A.d_Oreduce ["self", "quantity"] []
  h_Oreduce : Meth K A.CO "reduce" A.f_Oreduce
  F_Oentry : Fun K "entry" "Order.entry" s_Oentry A.f_Oentry A.d_Oentry
  b_Oentry : Binds K A.d_Oentry ["self"] []
  h_Oentry : Meth K A.CO "entry" A.f_Oentry
  F_other_side : Fun K "other_side" "other_side" s_other_side A.f_other_side A.d_other_side
  b_other_side : Binds K A.d_other_side ["side"] []
  g_other_side : mg "other_side" = some (.ref A.f_other_side)
  F_is_better : Fun K "is_better" "is_better" s_is_better A.f_is_better A.d_is_better
  b_is_better : Binds K A.d_is_better ["side", "price", "other"] []
  g_is_better : mg "is_better" = some (.ref A.f_is_better)
  F_accepts : Fun K "accepts" "accepts" s_accepts A.f_accepts A.d_accepts
  b_accepts : Binds K A.d_accepts ["side", "limit", "price"] []
  g_accepts : mg "accepts" = some (.ref A.f_accepts)
  F_check_order : Fun K "check_order" "check_order" s_check_order A.f_check_order A.d_check_order
  b_check_order : Binds K A.d_check_order ["side", "price", "quantity", "kind", "shown"] []
  g_check_order : mg "check_order" = some (.ref A.f_check_order)
  F_check_stop : Fun K "check_stop" "check_stop" s_check_stop A.f_check_stop A.d_check_stop
  b_check_stop : Binds K A.d_check_stop ["side", "trigger", "price", "quantity"] []
  g_check_stop : mg "check_stop" = some (.ref A.f_check_stop)
  F_Rinit : Fun K "__init__" "Report.__init__" s_Rinit A.f_Rinit A.d_Rinit
  b_Rinit : Binds K A.d_Rinit ["self", "order", "fills", "removed", "resting"] []
  F_Sinit : Fun K "__init__" "Stop.__init__" s_Sinit A.f_Sinit A.d_Sinit
  b_Sinit : Binds K A.d_Sinit ["self", "number", "house", "side", "trigger", "price", "quantity"] []
  F_Sis_reached : Fun K "is_reached" "Stop.is_reached" s_Sis_reached A.f_Sis_reached A.d_Sis_reached
  b_Sis_reached : Binds K A.d_Sis_reached ["self", "last"] []
  h_Sis_reached : Meth K A.CS "is_reached" A.f_Sis_reached
  F_Sentry : Fun K "entry" "Stop.entry" s_Sentry A.f_Sentry A.d_Sentry
  b_Sentry : Binds K A.d_Sentry ["self"] []
  h_Sentry : Meth K A.CS "entry" A.f_Sentry
  F_Binit : FunD K "__init__" "Book.__init__" (defArgs s_Binit) (defBody s_Binit) (defScope s_Binit) [.int 1] [] A.f_Binit A.d_Binit
  b_Binit : ∃ ds, Vals [.int 1] ds ∧ Binds K A.d_Binit ["self", "first_number"] ds
  F_Borders : Fun K "orders" "Book.orders" s_Borders A.f_Borders A.d_Borders
  b_Borders : Binds K A.d_Borders ["self", "side"] []
  h_Borders : Meth K A.CB "orders" A.f_Borders
  F_Bstops : Fun K "stops" "Book.stops" s_Bstops A.f_Bstops A.d_Bstops
  b_Bstops : Binds K A.d_Bstops ["self"] []
  h_Bstops : Meth K A.CB "stops" A.f_Bstops
  F_Bsubmit : Fun K "submit" "Book.submit" s_Bsubmit A.f_Bsubmit A.d_Bsubmit
  b_Bsubmit : KBn K A.d_Bsubmit ["self", "house", "side", "price", "quantity", "kind", "shown"] 5 ["kind", "shown"] (fun us ws => us ++ ws) (fun vs zs => vs ++ zs)
  h_Bsubmit : Meth K A.CB "submit" A.f_Bsubmit
  F_Bsubmit_stop : Fun K "submit_stop" "Book.submit_stop" s_Bsubmit_stop A.f_Bsubmit_stop A.d_Bsubmit_stop
  b_Bsubmit_stop : Binds K A.d_Bsubmit_stop ["self", "house", "side", "trigger", "price", "quantity"] []
  h_Bsubmit_stop : Meth K A.CB "submit_stop" A.f_Bsubmit_stop
  F_Bcancel : Fun K "cancel" "Book.cancel" s_Bcancel A.f_Bcancel A.d_Bcancel
  b_Bcancel : Binds K A.d_Bcancel ["self", "number", "house"] []
  h_Bcancel : Meth K A.CB "cancel" A.f_Bcancel
  F_Bamend : Fun K "amend" "Book.amend" s_Bamend A.f_Bamend A.d_Bamend
  b_Bamend : Binds K A.d_Bamend ["self", "number", "house", "price", "quantity"] []
  h_Bamend : Meth K A.CB "amend" A.f_Bamend
  F_Bnew_number : Fun K "_new_number" "Book._new_number" s_Bnew_number A.f_Bnew_number A.d_Bnew_number
  b_Bnew_number : Binds K A.d_Bnew_number ["self"] []
  h_Bnew_number : Meth K A.CB "_new_number" A.f_Bnew_number
  F_Bowned : Fun K "_owned" "Book._owned" s_Bowned A.f_Bowned A.d_Bowned
  b_Bowned : Binds K A.d_Bowned ["self", "number", "house"] []
  h_Bowned : Meth K A.CB "_owned" A.f_Bowned
  F_Bremove : Fun K "_remove" "Book._remove" s_Bremove A.f_Bremove A.d_Bremove
  b_Bremove : Binds K A.d_Bremove ["self", "order"] []
  h_Bremove : Meth K A.CB "_remove" A.f_Bremove
  F_Binsert : Fun K "_insert" "Book._insert" s_Binsert A.f_Binsert A.d_Binsert
  b_Binsert : Binds K A.d_Binsert ["self", "order"] []
  h_Binsert : Meth K A.CB "_insert" A.f_Binsert
  F_Benter : Fun K "_enter" "Book._enter" s_Benter A.f_Benter A.d_Benter
  b_Benter : Binds K A.d_Benter ["self", "order", "kind"] []
  h_Benter : Meth K A.CB "_enter" A.f_Benter
  F_Bmatch : Fun K "_match" "Book._match" s_Bmatch A.f_Bmatch A.d_Bmatch
  b_Bmatch : Binds K A.d_Bmatch ["self", "order", "fills", "removed"] []
  h_Bmatch : Meth K A.CB "_match" A.f_Bmatch
  F_Bsettle_first : Fun K "_settle_first" "Book._settle_first" s_Bsettle_first A.f_Bsettle_first A.d_Bsettle_first
  b_Bsettle_first : Binds K A.d_Bsettle_first ["self", "resting", "first"] []
  h_Bsettle_first : Meth K A.CB "_settle_first" A.f_Bsettle_first
  F_Btrigger : Fun K "_trigger" "Book._trigger" s_Btrigger A.f_Btrigger A.d_Btrigger
  b_Btrigger : Binds K A.d_Btrigger ["self"] []
  h_Btrigger : Meth K A.CB "_trigger" A.f_Btrigger
  F_Bfirst_reached : Fun K "_first_reached" "Book._first_reached" s_Bfirst_reached A.f_Bfirst_reached A.d_Bfirst_reached
  b_Bfirst_reached : Binds K A.d_Bfirst_reached ["self"] []
  h_Bfirst_reached : Meth K A.CB "_first_reached" A.f_Bfirst_reached
  F_law_house : Fun K "_law_house" "_law_house" s_law_house A.f_law_house A.d_law_house
  b_law_house : Binds K A.d_law_house ["_law_cell"] []
  g_law_house : mg "_law_house" = some (.ref A.f_law_house)
  F_law_resting_side : Fun K "_law_resting_side" "_law_resting_side" s_law_resting_side A.f_law_resting_side A.d_law_resting_side
  b_law_resting_side : Binds K A.d_law_resting_side ["_law_side"] []
  g_law_resting_side : mg "_law_resting_side" = some (.ref A.f_law_resting_side)
  F_law_fits : Fun K "_law_fits" "_law_fits" s_law_fits A.f_law_fits A.d_law_fits
  b_law_fits : Binds K A.d_law_fits ["_law_side", "_law_limit", "_law_price"] []
  g_law_fits : mg "_law_fits" = some (.ref A.f_law_fits)
  F_law_first : Fun K "_law_first" "_law_first" s_law_first A.f_law_first A.d_law_first
  b_law_first : Binds K A.d_law_first ["_law_orders", "_law_side", "_law_limit"] []
  g_law_first : mg "_law_first" = some (.ref A.f_law_first)
  F_law_visible : Fun K "_law_visible" "_law_visible" s_law_visible A.f_law_visible A.d_law_visible
  b_law_visible : Binds K A.d_law_visible ["_law_left", "_law_shown"] []
  g_law_visible : mg "_law_visible" = some (.ref A.f_law_visible)
  F_law_trade : Fun K "_law_trade" "_law_trade" s_law_trade A.f_law_trade A.d_law_trade
  b_law_trade : Binds K A.d_law_trade ["_law_orders", "_law_house_here", "_law_side", "_law_limit", "_law_quantity"] []
  g_law_trade : mg "_law_trade" = some (.ref A.f_law_trade)
  F_law_enter : Fun K "_law_enter" "_law_enter" s_law_enter A.f_law_enter A.d_law_enter
  b_law_enter : Binds K A.d_law_enter ["_law_orders", "_law_number", "_law_house_here", "_law_side", "_law_limit", "_law_quantity", "_law_kind", "_law_shown"] []
  g_law_enter : mg "_law_enter" = some (.ref A.f_law_enter)
  F_law_listed : Fun K "_law_listed" "_law_listed" s_law_listed A.f_law_listed A.d_law_listed
  b_law_listed : Binds K A.d_law_listed ["_law_orders", "_law_side"] []
  g_law_listed : mg "_law_listed" = some (.ref A.f_law_listed)
  F_law_reached : Fun K "_law_reached" "_law_reached" s_law_reached A.f_law_reached A.d_law_reached
  b_law_reached : Binds K A.d_law_reached ["_law_stop", "_law_last_here"] []
  g_law_reached : mg "_law_reached" = some (.ref A.f_law_reached)
  F_law_last : Fun K "_law_last" "_law_last" s_law_last A.f_law_last A.d_law_last
  b_law_last : Binds K A.d_law_last ["_law_last_here", "_law_due"] []
  g_law_last : mg "_law_last" = some (.ref A.f_law_last)
  F_law_triggered : Fun K "_law_triggered" "_law_triggered" s_law_triggered A.f_law_triggered A.d_law_triggered
  b_law_triggered : Binds K A.d_law_triggered ["_law_world"] []
  g_law_triggered : mg "_law_triggered" = some (.ref A.f_law_triggered)
  F_law_told : Fun K "_law_told" "_law_told" s_law_told A.f_law_told A.d_law_told
  b_law_told : Binds K A.d_law_told ["_law_reports"] []
  g_law_told : mg "_law_told" = some (.ref A.f_law_told)
  F_law_submit : Fun K "_law_submit" "_law_submit" s_law_submit A.f_law_submit A.d_law_submit
  b_law_submit : Binds K A.d_law_submit ["_law_book", "_law_world", "_law_cell", "_law_number"] []
  g_law_submit : mg "_law_submit" = some (.ref A.f_law_submit)
  F_law_cancel : Fun K "_law_cancel" "_law_cancel" s_law_cancel A.f_law_cancel A.d_law_cancel
  b_law_cancel : Binds K A.d_law_cancel ["_law_book", "_law_world", "_law_cell"] []
  g_law_cancel : mg "_law_cancel" = some (.ref A.f_law_cancel)
  F_law_amend : Fun K "_law_amend" "_law_amend" s_law_amend A.f_law_amend A.d_law_amend
  b_law_amend : Binds K A.d_law_amend ["_law_book", "_law_world", "_law_cell"] []
  g_law_amend : mg "_law_amend" = some (.ref A.f_law_amend)
  F_law : Fun K "law" "law" s_law A.f_law A.d_law
  z_int : mg "int" = none
  z_bool : mg "bool" = none
  z_isinstance : mg "isinstance" = none
  z_len : mg "len" = none
  z_min : mg "min" = none
  z_range : mg "range" = none
  z_sorted : mg "sorted" = none
  greatest : ∃ t, mg "GREATEST" = some (.int 1000000 t)
  sides : ∃ a, mg "SIDES" = some (.ref a) ∧ ∀ H, SqT K H a [.str "buy", .str "sell"]
  kinds : ∃ a, mg "KINDS" = some (.ref a) ∧ ∀ H, SqT K H a [.str "rest", .str "now", .str "all"]
theorem sc_is_integer : FnScope ["value"] ["value"] (defScope s_is_integer) := ⟨rfl, rfl, rfl, by decide +kernel, rfl, by decide +kernel, by decide +kernel⟩
theorem sc_in_range : FnScope ["value"] ["value"] (defScope s_in_range) := ⟨rfl, rfl, rfl, by decide +kernel, rfl, by decide +kernel, by decide +kernel⟩
theorem sc_Oinit : FnScope ["self", "number", "house", "side", "price", "quantity", "shown"] ["self", "number", "house", "side", "price", "quantity", "shown"] (defScope s_Oinit) := ⟨rfl, rfl, rfl, by decide +kernel, rfl, by decide +kernel, by decide +kernel⟩
theorem sc_Oshow_next_part : FnScope ["self"] ["self"] (defScope s_Oshow_next_part) := ⟨rfl, rfl, rfl, by decide +kernel, rfl, by decide +kernel, by decide +kernel⟩
theorem sc_Otake : FnScope ["self", "quantity"] ["self", "quantity"] (defScope s_Otake) := ⟨rfl, rfl, rfl, by decide +kernel, rfl, by decide +kernel, by decide +kernel⟩
theorem sc_Oreduce : FnScope ["self", "quantity"] ["self", "quantity"] (defScope s_Oreduce) := ⟨rfl, rfl, rfl, by decide +kernel, rfl, by decide +kernel, by decide +kernel⟩
theorem sc_Oentry : FnScope ["self"] ["self"] (defScope s_Oentry) := ⟨rfl, rfl, rfl, by decide +kernel, rfl, by decide +kernel, by decide +kernel⟩
theorem sc_other_side : FnScope ["side"] ["side"] (defScope s_other_side) := ⟨rfl, rfl, rfl, by decide +kernel, rfl, by decide +kernel, by decide +kernel⟩
theorem sc_is_better : FnScope ["side", "price", "other"] ["side", "price", "other"] (defScope s_is_better) := ⟨rfl, rfl, rfl, by decide +kernel, rfl, by decide +kernel, by decide +kernel⟩
theorem sc_accepts : FnScope ["side", "limit", "price"] ["side", "limit", "price"] (defScope s_accepts) := ⟨rfl, rfl, rfl, by decide +kernel, rfl, by decide +kernel, by decide +kernel⟩
theorem sc_check_order : FnScope ["side", "price", "quantity", "kind", "shown"] ["side", "price", "quantity", "kind", "shown"] (defScope s_check_order) := ⟨rfl, rfl, rfl, by decide +kernel, rfl, by decide +kernel, by decide +kernel⟩
theorem sc_check_stop : FnScope ["side", "trigger", "price", "quantity"] ["side", "trigger", "price", "quantity"] (defScope s_check_stop) := ⟨rfl, rfl, rfl, by decide +kernel, rfl, by decide +kernel, by decide +kernel⟩
theorem sc_Rinit : FnScope ["self", "order", "fills", "removed", "resting"] ["self", "order", "fills", "removed", "resting"] (defScope s_Rinit) := ⟨rfl, rfl, rfl, by decide +kernel, rfl, by decide +kernel, by decide +kernel⟩
theorem sc_Sinit : FnScope ["self", "number", "house", "side", "trigger", "price", "quantity"] ["self", "number", "house", "side", "trigger", "price", "quantity"] (defScope s_Sinit) := ⟨rfl, rfl, rfl, by decide +kernel, rfl, by decide +kernel, by decide +kernel⟩
theorem sc_Sis_reached : FnScope ["self", "last"] ["self", "last"] (defScope s_Sis_reached) := ⟨rfl, rfl, rfl, by decide +kernel, rfl, by decide +kernel, by decide +kernel⟩
theorem sc_Sentry : FnScope ["self"] ["self"] (defScope s_Sentry) := ⟨rfl, rfl, rfl, by decide +kernel, rfl, by decide +kernel, by decide +kernel⟩
theorem sc_Binit : FnScope ["self", "first_number"] ["self", "first_number"] (defScope s_Binit) := ⟨rfl, rfl, rfl, by decide +kernel, rfl, by decide +kernel, by decide +kernel⟩
theorem sc_Borders : FnScope ["self", "side", "order"] ["self", "side"] (defScope s_Borders) := ⟨rfl, rfl, rfl, by decide +kernel, rfl, by decide +kernel, by decide +kernel⟩
theorem sc_Bstops : FnScope ["self", "stop"] ["self"] (defScope s_Bstops) := ⟨rfl, rfl, rfl, by decide +kernel, rfl, by decide +kernel, by decide +kernel⟩
theorem sc_Bsubmit : FnScope ["self", "house", "side", "price", "quantity", "kind", "shown", "order", "report"] ["self", "house", "side", "price", "quantity", "kind", "shown"] (defScope s_Bsubmit) := ⟨rfl, rfl, rfl, by decide +kernel, rfl, by decide +kernel, by decide +kernel⟩
theorem sc_Bsubmit_stop : FnScope ["self", "house", "side", "trigger", "price", "quantity", "stop", "report"] ["self", "house", "side", "trigger", "price", "quantity"] (defScope s_Bsubmit_stop) := ⟨rfl, rfl, rfl, by decide +kernel, rfl, by decide +kernel, by decide +kernel⟩
theorem sc_Bcancel : FnScope ["self", "number", "house", "stop", "kept", "order"] ["self", "number", "house"] (defScope s_Bcancel) := ⟨rfl, rfl, rfl, by decide +kernel, rfl, by decide +kernel, by decide +kernel⟩
theorem sc_Bamend : FnScope ["self", "number", "house", "price", "quantity", "order", "changed", "report"] ["self", "number", "house", "price", "quantity"] (defScope s_Bamend) := ⟨rfl, rfl, rfl, by decide +kernel, rfl, by decide +kernel, by decide +kernel⟩
theorem sc_Bnew_number : FnScope ["self", "number"] ["self"] (defScope s_Bnew_number) := ⟨rfl, rfl, rfl, by decide +kernel, rfl, by decide +kernel, by decide +kernel⟩
theorem sc_Bowned : FnScope ["self", "number", "house", "side", "order"] ["self", "number", "house"] (defScope s_Bowned) := ⟨rfl, rfl, rfl, by decide +kernel, rfl, by decide +kernel, by decide +kernel⟩
theorem sc_Bremove : FnScope ["self", "order", "kept", "other"] ["self", "order"] (defScope s_Bremove) := ⟨rfl, rfl, rfl, by decide +kernel, rfl, by decide +kernel, by decide +kernel⟩
theorem sc_Binsert : FnScope ["self", "order", "resting", "place"] ["self", "order"] (defScope s_Binsert) := ⟨rfl, rfl, rfl, by decide +kernel, rfl, by decide +kernel, by decide +kernel⟩
theorem sc_Benter : FnScope ["self", "order", "kind", "fills", "removed", "resting"] ["self", "order", "kind"] (defScope s_Benter) := ⟨rfl, rfl, rfl, by decide +kernel, rfl, by decide +kernel, by decide +kernel⟩
theorem sc_Bmatch : FnScope ["self", "order", "fills", "removed", "resting", "first", "quantity"] ["self", "order", "fills", "removed"] (defScope s_Bmatch) := ⟨rfl, rfl, rfl, by decide +kernel, rfl, by decide +kernel, by decide +kernel⟩
theorem sc_Bsettle_first : FnScope ["self", "resting", "first"] ["self", "resting", "first"] (defScope s_Bsettle_first) := ⟨rfl, rfl, rfl, by decide +kernel, rfl, by decide +kernel, by decide +kernel⟩
theorem sc_Btrigger : FnScope ["self", "reports", "reached", "stop", "order", "kind"] ["self"] (defScope s_Btrigger) := ⟨rfl, rfl, rfl, by decide +kernel, rfl, by decide +kernel, by decide +kernel⟩
theorem sc_Bfirst_reached : FnScope ["self", "stop"] ["self"] (defScope s_Bfirst_reached) := ⟨rfl, rfl, rfl, by decide +kernel, rfl, by decide +kernel, by decide +kernel⟩
theorem sc_law_house : FnScope ["_law_cell"] ["_law_cell"] (defScope s_law_house) := ⟨rfl, rfl, rfl, by decide +kernel, rfl, by decide +kernel, by decide +kernel⟩
theorem sc_law_resting_side : FnScope ["_law_side"] ["_law_side"] (defScope s_law_resting_side) := ⟨rfl, rfl, rfl, by decide +kernel, rfl, by decide +kernel, by decide +kernel⟩
theorem sc_law_fits : FnScope ["_law_side", "_law_limit", "_law_price"] ["_law_side", "_law_limit", "_law_price"] (defScope s_law_fits) := ⟨rfl, rfl, rfl, by decide +kernel, rfl, by decide +kernel, by decide +kernel⟩
theorem sc_law_first : FnScope ["_law_orders", "_law_side", "_law_limit", "_law_best", "_law_order"] ["_law_orders", "_law_side", "_law_limit"] (defScope s_law_first) := ⟨rfl, rfl, rfl, by decide +kernel, rfl, by decide +kernel, by decide +kernel⟩
theorem sc_law_visible : FnScope ["_law_left", "_law_shown"] ["_law_left", "_law_shown"] (defScope s_law_visible) := ⟨rfl, rfl, rfl, by decide +kernel, rfl, by decide +kernel, by decide +kernel⟩
theorem sc_law_trade : FnScope ["_law_orders", "_law_house_here", "_law_side", "_law_limit", "_law_quantity", "_law_fills", "_law_removed", "_law_left", "_law_step", "_law_first_here", "_law_traded"] ["_law_orders", "_law_house_here", "_law_side", "_law_limit", "_law_quantity"] (defScope s_law_trade) := ⟨rfl, rfl, rfl, by decide +kernel, rfl, by decide +kernel, by decide +kernel⟩
theorem sc_law_enter : FnScope ["_law_orders", "_law_number", "_law_house_here", "_law_side", "_law_limit", "_law_quantity", "_law_kind", "_law_shown", "_law_fills", "_law_removed", "_law_left"] ["_law_orders", "_law_number", "_law_house_here", "_law_side", "_law_limit", "_law_quantity", "_law_kind", "_law_shown"] (defScope s_law_enter) := ⟨rfl, rfl, rfl, by decide +kernel, rfl, by decide +kernel, by decide +kernel⟩
theorem sc_law_listed : FnScope ["_law_orders", "_law_side", "_law_kept", "_law_order", "_law_rows", "_law_step", "_law_first_here"] ["_law_orders", "_law_side"] (defScope s_law_listed) := ⟨rfl, rfl, rfl, by decide +kernel, rfl, by decide +kernel, by decide +kernel⟩
theorem sc_law_reached : FnScope ["_law_stop", "_law_last_here"] ["_law_stop", "_law_last_here"] (defScope s_law_reached) := ⟨rfl, rfl, rfl, by decide +kernel, rfl, by decide +kernel, by decide +kernel⟩
theorem sc_law_last : FnScope ["_law_last_here", "_law_due"] ["_law_last_here", "_law_due"] (defScope s_law_last) := ⟨rfl, rfl, rfl, by decide +kernel, rfl, by decide +kernel, by decide +kernel⟩
theorem sc_law_triggered : FnScope ["_law_world", "_law_rows", "_law_step", "_law_ready", "_law_stop", "_law_other", "_law_kind", "_law_due"] ["_law_world"] (defScope s_law_triggered) := ⟨rfl, rfl, rfl, by decide +kernel, rfl, by decide +kernel, by decide +kernel⟩
theorem sc_law_told : FnScope ["_law_reports", "_law_rows", "_law_report"] ["_law_reports"] (defScope s_law_told) := ⟨rfl, rfl, rfl, by decide +kernel, rfl, by decide +kernel, by decide +kernel⟩
theorem sc_law_submit : FnScope ["_law_book", "_law_world", "_law_cell", "_law_number", "_law_house_here", "_law_side", "_law_limit", "_law_quantity", "_law_trigger", "_law_reports", "_law_due", "_law_kind", "_law_shown"] ["_law_book", "_law_world", "_law_cell", "_law_number"] (defScope s_law_submit) := ⟨rfl, rfl, rfl, by decide +kernel, rfl, by decide +kernel, by decide +kernel⟩
theorem sc_law_cancel : FnScope ["_law_book", "_law_world", "_law_cell", "_law_stops", "_law_orders", "_law_place", "_law_stop", "_law_order"] ["_law_book", "_law_world", "_law_cell"] (defScope s_law_cancel) := ⟨rfl, rfl, rfl, by decide +kernel, rfl, by decide +kernel, by decide +kernel⟩
theorem sc_law_amend : FnScope ["_law_book", "_law_world", "_law_cell", "_law_orders", "_law_order", "_law_price", "_law_quantity", "_law_reports", "_law_due"] ["_law_book", "_law_world", "_law_cell"] (defScope s_law_amend) := ⟨rfl, rfl, rfl, by decide +kernel, rfl, by decide +kernel, by decide +kernel⟩
theorem sc_law : FnScope ["_law_script", "_law_book", "_law_world", "_law_number", "_law_cell", "_law_step", "_law_right", "_law_side"] ["_law_script"] (defScope s_law) := ⟨rfl, rfl, rfl, by decide +kernel, rfl, by decide +kernel, by decide +kernel⟩
end K29
end

section
set_option Elab.async false
set_option maxRecDepth 100000
set_option maxHeartbeats 1000000
/-! the plain data, the mirror of the book, the mirror of the law's plain book, and that they agree -/
namespace K29
open PySem

structure Od where
  num : Int
  house : Str
  buy : Bool
  price : Option Int
  left : Int
  shown : Int
  vis : Int
structure Sd where
  num : Int
  house : Str
  buy : Bool
  trig : Int
  price : Option Int
  qty : Int
structure Fl where
  num : Int
  house : Str
  price : Int
  qty : Int
structure Rp where
  num : Int
  house : Str
  buy : Bool
  fills : List Fl
  rem : List Int
  rest : Int

def Od.pr (o : Od) : Int := o.price.getD 0
def minI (a b : Int) : Int := if b < a then b else a
def part (shown left : Int) : Int := if 0 < shown then minI shown left else left
def Od.show (o : Od) : Od := { o with vis := part o.shown o.left }
def mkOd (num : Int) (house : Str) (buy : Bool) (price : Option Int) (qty shown : Int) : Od := ⟨num, house, buy, price, qty, shown, part shown qty⟩
def acc (b : Bool) (lim : Option Int) (p : Int) : Bool := match lim with
  | none => true
  | some l => if b = true then decide (p ≤ l) else decide (l ≤ p)
def better (b : Bool) (p q : Int) : Bool := if b = true then decide (q < p) else decide (p < q)

/-! ### a place by price, behind the same or better -/
section
variable {α : Type}
def insG (f : α → Od) (t : α) : List α → List α
  | [] => [t]
  | r :: rs => if better (f t).buy (f t).pr (f r).pr = true then t :: r :: rs else r :: insG f t rs
theorem insG_map (f : α → Od) (t : α) : ∀ L : List α, (insG f t L).map f = insG id (f t) (L.map f)
  | [] => rfl
  | r :: rs => by
    show (if better (f t).buy (f t).pr (f r).pr = true then t :: r :: rs else r :: insG f t rs).map f = (if better (f t).buy (f t).pr (f r).pr = true then f t :: f r :: rs.map f else f r :: insG id (f t) (rs.map f))
    split
    · rfl
    · rw [List.map_cons, insG_map f t rs]
theorem insG_at (f : α → Od) (t : α) : ∀ (L : List α) (k : Nat), k ≤ L.length → (∀ j r, j < k → L[j]? = some r → better (f t).buy (f t).pr (f r).pr = false) → (∀ r, L[k]? = some r → better (f t).buy (f t).pr (f r).pr = true) →
    insG f t L = L.take k ++ [t] ++ L.drop k
  | [], k, hk, _, _ => by
    have : k = 0 := by simpa using hk
    subst this
    rfl
  | r :: rs, 0, _, _, h2 => by
    have := h2 r rfl
    show (if better (f t).buy (f t).pr (f r).pr = true then t :: r :: rs else r :: insG f t rs) = _
    rw [if_pos this]
    rfl
  | r :: rs, k + 1, hk, h1, h2 => by
    have := h1 0 r (Nat.succ_pos _) rfl
    show (if better (f t).buy (f t).pr (f r).pr = true then t :: r :: rs else r :: insG f t rs) = _
    rw [if_neg (by rw [this]; decide), insG_at f t rs k (by simpa using hk) (fun j r' hj e => h1 (j + 1) r' (Nat.succ_lt_succ hj) e) (fun r' e => h2 r' e)]
    rfl
theorem insG_perm (f : α → Od) (t : α) : ∀ L : List α, (insG f t L).Perm (t :: L)
  | [] => List.Perm.refl _
  | r :: rs => by
    show (if better (f t).buy (f t).pr (f r).pr = true then t :: r :: rs else r :: insG f t rs).Perm (t :: r :: rs)
    split
    · exact List.Perm.refl _
    · exact ((insG_perm f t rs).cons r).trans (List.Perm.swap t r rs)
end
abbrev ins (o : Od) (L : List Od) : List Od := insG id o L
theorem ins_cons (o r : Od) (rs : List Od) : ins o (r :: rs) = if better o.buy o.pr r.pr = true then o :: r :: rs else r :: ins o rs := rfl
theorem mem_ins {o x : Od} {L : List Od} : x ∈ ins o L ↔ x = o ∨ x ∈ L := by
  rw [(insG_perm id o L).mem_iff, List.mem_cons]
theorem len_ins (o : Od) (L : List Od) : (ins o L).length = L.length + 1 := by
  rw [(insG_perm id o L).length_eq, List.length_cons]

/-! ### the program's book -/
structure MS where
  L : List Od
  left : Int
  fills : List Fl
  rem : List Int
def mdone (b : Bool) (lim : Option Int) (s : MS) : Prop := s.left ≤ 0 ∨ ∀ f, s.L.head? = some f → acc b lim f.pr = false
def hit (f : Od) (q : Int) : Od := { f with left := f.left - q, vis := f.vis - q }
def back (f : Od) (L : List Od) : List Od := if f.left = 0 then L else if f.vis = 0 then ins f.show L else f :: L
def mstep (h : Str) (s : MS) : MS := match s.L with
  | [] => s
  | f :: L => if f.house = h then ⟨L, s.left, s.fills, s.rem ++ [f.num]⟩
    else ⟨back (hit f (minI s.left f.vis)) L, s.left - minI s.left f.vis, s.fills ++ [⟨f.num, f.house, f.pr, minI s.left f.vis⟩], s.rem⟩
inductive MRun (b : Bool) (h : Str) (lim : Option Int) : MS → MS → Prop
  | done {s : MS} : mdone b lim s → MRun b h lim s s
  | step {s t : MS} : ¬ mdone b lim s → MRun b h lim (mstep h s) t → MRun b h lim s t
theorem MRun.det {b : Bool} {h : Str} {lim : Option Int} {s t t' : MS} (x : MRun b h lim s t) (y : MRun b h lim s t') : t = t' := by
  induction x with
  | done d =>
    cases y with
    | done _ => rfl
    | step n _ => exact absurd d n
  | step n _ ih =>
    cases y with
    | done d => exact absurd d n
    | step _ y' => exact ih y'

def Good (o : Od) : Prop := 1 ≤ o.vis ∧ o.vis ≤ o.left ∧ 0 ≤ o.shown ∧ o.price = some o.pr
theorem minI_le (a b : Int) : minI a b ≤ a ∧ minI a b ≤ b := by
  unfold minI
  split <;> omega
theorem minI_pos {a b : Int} (ha : 0 < a) (hb : 0 < b) : 0 < minI a b := by
  unfold minI
  split <;> omega
theorem part_good {shown left : Int} (h : 0 < left) (hs : 0 ≤ shown) : 1 ≤ part shown left ∧ part shown left ≤ left := by
  unfold part minI
  split
  · split <;> omega
  · omega
theorem show_good {o : Od} (h : 0 < o.left) (hs : 0 ≤ o.shown) (hp : o.price = some o.pr) : Good o.show := ⟨(part_good h hs).1, (part_good h hs).2, hs, hp⟩
theorem hit_good {f : Od} {a : Int} (g : Good f) (ha : 0 < a) : 0 ≤ (hit f (minI a f.vis)).vis ∧ (hit f (minI a f.vis)).vis ≤ (hit f (minI a f.vis)).left := by
  obtain ⟨g1, g2, g3, g4⟩ := g
  have := (minI_le a f.vis).2
  show 0 ≤ f.vis - minI a f.vis ∧ f.vis - minI a f.vis ≤ f.left - minI a f.vis
  omega
theorem back_len (f : Od) (L : List Od) : (back f L).length ≤ L.length + 1 := by
  unfold back
  split
  · omega
  · split
    · rw [len_ins]
      exact Nat.le_refl _
    · exact Nat.le_refl _
theorem back_mem {f x : Od} {L : List Od} (h : x ∈ back f L) : (x = f.show ∧ f.left ≠ 0 ∧ f.vis = 0) ∨ (x = f ∧ f.left ≠ 0 ∧ f.vis ≠ 0) ∨ x ∈ L := by
  unfold back at h
  split at h
  · exact .inr (.inr h)
  · rename_i hl
    split at h
    · rename_i hv
      rcases mem_ins.mp h with e | h
      · exact .inl ⟨e, hl, hv⟩
      · exact .inr (.inr h)
    · rename_i hv
      rcases List.mem_cons.mp h with e | h
      · exact .inr (.inl ⟨e, hl, hv⟩)
      · exact .inr (.inr h)
theorem mstep_cons {h : Str} {f : Od} {L : List Od} {left : Int} {fills : List Fl} {rem : List Int} : mstep h ⟨f :: L, left, fills, rem⟩ = if f.house = h then ⟨L, left, fills, rem ++ [f.num]⟩
    else ⟨back (hit f (minI left f.vis)) L, left - minI left f.vis, fills ++ [⟨f.num, f.house, f.pr, minI left f.vis⟩], rem⟩ := rfl
/-- what a match keeps -/
structure MOk (b : Bool) (s : MS) : Prop where
  good : ∀ f ∈ s.L, Good f ∧ f.buy = b
  left : 0 ≤ s.left
def meas (s : MS) : Nat := s.L.length + s.left.toNat
theorem not_mdone {b : Bool} {lim : Option Int} {s : MS} (h : ¬ mdone b lim s) : 0 < s.left ∧ ∃ f L, s.L = f :: L ∧ acc b lim f.pr = true := by
  have h1 : 0 < s.left := by
    refine Int.lt_of_not_ge fun q => h (.inl q)
  refine ⟨h1, ?_⟩
  cases e : s.L with
  | nil =>
    exact absurd (.inr fun f hf => by rw [e] at hf; cases hf) h
  | cons f L =>
    refine ⟨f, L, rfl, ?_⟩
    cases q : acc b lim f.pr with
    | true => rfl
    | false =>
      refine absurd (.inr fun f' hf => ?_) h
      rw [e] at hf
      cases hf
      exact q
theorem mstep_ok {b c : Bool} {h : Str} {lim : Option Int} {s : MS} (n : ¬ mdone b lim s) (g : MOk c s) :
    MOk c (mstep h s) ∧ meas (mstep h s) < meas s ∧ (mstep h s).L.length ≤ s.L.length ∧ (mstep h s).left ≤ s.left ∧ (mstep h s).fills.length + (mstep h s).rem.length = s.fills.length + s.rem.length + 1 := by
  obtain ⟨h0, f, L, e, _⟩ := not_mdone n
  obtain ⟨SL, left, fills, rem⟩ := s
  simp only at e h0
  subst e
  rw [mstep_cons]
  have gf := g.good f List.mem_cons_self
  have gL : ∀ x ∈ L, Good x ∧ x.buy = c := fun x hx => g.good x (List.mem_cons_of_mem _ hx)
  split
  · refine ⟨⟨gL, g.left⟩, ?_, by simp, Int.le_refl _, by simp; omega⟩
    show L.length + left.toNat < (L.length + 1) + left.toNat
    omega
  · have hq := minI_pos h0 (show 0 < f.vis from by have := gf.1.1; omega)
    have hq2 := minI_le left f.vis
    have hh := hit_good gf.1 h0
    refine ⟨⟨fun x hx => ?_, ?_⟩, ?_, ?_, ?_, by simp; omega⟩
    · rcases back_mem hx with ⟨e, h1, h2⟩ | ⟨e, h1, h2⟩ | hx
      · subst e
        exact ⟨show_good (by omega) gf.1.2.2.1 gf.1.2.2.2, gf.2⟩
      · subst e
        exact ⟨⟨by omega, hh.2, gf.1.2.2.1, gf.1.2.2.2⟩, gf.2⟩
      · exact gL x hx
    · show 0 ≤ left - _
      omega
    · have := back_len (hit f (minI left f.vis)) L
      show (back (hit f (minI left f.vis)) L).length + (left - minI left f.vis).toNat < (L.length + 1) + left.toNat
      omega
    · exact back_len _ _
    · show left - _ ≤ left
      omega
theorem MRun.ok {b c : Bool} {h : Str} {lim : Option Int} {s t : MS} (x : MRun b h lim s t) (g : MOk c s) :
    MOk c t ∧ t.L.length ≤ s.L.length ∧ t.left ≤ s.left ∧ t.fills.length + t.rem.length ≤ s.fills.length + s.rem.length + meas s := by
  induction x with
  | done d => exact ⟨g, Nat.le_refl _, Int.le_refl _, Nat.le_add_right _ _⟩
  | step n _ ih =>
    obtain ⟨g1, m1, l1, f1, c1⟩ := mstep_ok (h := h) n g
    obtain ⟨g2, l2, f2, c2⟩ := ih g1
    exact ⟨g2, Nat.le_trans l2 l1, Int.le_trans f2 f1, by omega⟩

structure Bk where
  L : Bool → List Od
  stops : List Sd
  last : Option Int
def Bk.put (b : Bk) (s : Bool) (L : List Od) : Bk := { b with L := fun x => if x = s then L else b.L x }
def lastOf (last : Option Int) (fills : List Fl) : Option Int := match fills.getLast? with
  | none => last
  | some f => some f.price
def rests (rest : Bool) (left : Int) : Prop := rest = true ∧ 0 < left
instance (rest : Bool) (left : Int) : Decidable (rests rest left) := inferInstanceAs (Decidable (_ ∧ _))
def restL (rest : Bool) (o : Od) (left : Int) (L : List Od) : List Od := if rests rest left then ins ({ o with left := left } : Od).show L else L
def endBk (rest : Bool) (b : Bk) (o : Od) (t : MS) : Bk := { L := fun x => if x = o.buy then restL rest o t.left (b.L x) else t.L, stops := b.stops, last := lastOf b.last t.fills }
def endRp (rest : Bool) (o : Od) (fills : List Fl) (rem : List Int) (left : Int) : Rp := ⟨o.num, o.house, o.buy, fills, rem, if rests rest left then left else 0⟩
def EnterR (rest : Bool) (b : Bk) (o : Od) (b' : Bk) (r : Rp) : Prop := ∃ t, MRun o.buy o.house o.price ⟨b.L (!o.buy), o.left, [], []⟩ t ∧ b' = endBk rest b o t ∧ r = endRp rest o t.fills t.rem t.left
def reached (last : Option Int) (s : Sd) : Bool := match last with
  | none => false
  | some p => if s.buy = true then decide (s.trig ≤ p) else decide (p ≤ s.trig)
def firstR (last : Option Int) (ss : List Sd) : Option Sd := ss.find? (reached last)
def rmvS (n : Int) (ss : List Sd) : List Sd := ss.filter fun s => !decide (s.num = n)
def odOf (s : Sd) : Od := mkOd s.num s.house s.buy s.price s.qty 0
inductive TrigR : Bk → Bk → List Rp → Prop
  | done {b : Bk} : firstR b.last b.stops = none → TrigR b b []
  | step {b b1 b2 : Bk} {s : Sd} {r : Rp} {rs : List Rp} : firstR b.last b.stops = some s → EnterR s.price.isSome { b with stops := rmvS s.num b.stops } (odOf s) b1 r → TrigR b1 b2 rs → TrigR b b2 (r :: rs)

/-- what the book keeps; N: how many orders and stops there may be -/
structure BInv (N : Nat) (b : Bk) : Prop where
  good : ∀ s, ∀ f ∈ b.L s, Good f ∧ f.buy = s
  stp : ∀ s ∈ b.stops, 1 ≤ s.qty ∧ s.qty ≤ 1000
  len : (b.L true).length + (b.L false).length + b.stops.length ≤ N
theorem len_two (L : Bool → List Od) (s : Bool) : (L true).length + (L false).length = (L s).length + (L (!s)).length := by
  cases s
  · exact Nat.add_comm _ _
  · rfl
theorem BInv.enter {N : Nat} {b b' : Bk} {o : Od} {r : Rp} {rest : Bool} (x : EnterR rest b o b' r) (i : BInv N b) (h1 : 0 ≤ o.left) (h2 : 0 ≤ o.shown) (hp : rest = true → o.price = some o.pr) : BInv (N + 1) b' := by
  obtain ⟨t, m, rfl, rfl⟩ := x
  obtain ⟨g, l, f, _⟩ := m.ok (c := !o.buy) ⟨fun x hx => i.good (!o.buy) x hx, h1⟩
  refine ⟨fun s x hx => ?_, i.stp, ?_⟩
  · by_cases hs : s = o.buy
    · subst hs
      have hx' : x ∈ restL rest o t.left (b.L o.buy) := by
        have : x ∈ (if o.buy = o.buy then restL rest o t.left (b.L o.buy) else t.L) := hx
        rw [if_pos rfl] at this
        exact this
      unfold restL at hx'
      split at hx'
      · rename_i hr
        rcases mem_ins.mp hx' with e | hx'
        · subst e
          exact ⟨show_good hr.2 h2 (hp hr.1), rfl⟩
        · exact i.good _ x hx'
      · exact i.good _ x hx'
    · have hx' : x ∈ t.L := by
        have : x ∈ (if s = o.buy then restL rest o t.left (b.L s) else t.L) := hx
        rw [if_neg hs] at this
        exact this
      have e : s = !o.buy := by
        cases s <;> cases hb : o.buy <;> simp_all
      rw [e]
      exact g.good x hx'
  · have q := i.len
    rw [len_two b.L o.buy] at q
    rw [len_two (endBk rest b o t).L o.buy]
    have e1 : (endBk rest b o t).L o.buy = restL rest o t.left (b.L o.buy) := if_pos rfl
    have e2 : (endBk rest b o t).L (!o.buy) = t.L := if_neg (by cases o.buy <;> decide)
    rw [e1, e2]
    have e3 : (restL rest o t.left (b.L o.buy)).length ≤ (b.L o.buy).length + 1 := by
      unfold restL
      split
      · rw [len_ins]
        exact Nat.le_refl _
      · omega
    have l' : t.L.length ≤ (b.L (!o.buy)).length := l
    show _ + _ + b.stops.length ≤ N + 1
    omega
theorem firstR_mem {last : Option Int} {ss : List Sd} {s : Sd} (h : firstR last ss = some s) : s ∈ ss := List.mem_of_find?_eq_some h
theorem rmvS_len {n : Int} {ss : List Sd} {s : Sd} (hs : s ∈ ss) (hn : s.num = n) : (rmvS n ss).length + 1 ≤ ss.length := by
  induction ss with
  | nil => cases hs
  | cons a r ih =>
    unfold rmvS
    rw [List.filter_cons]
    rcases List.mem_cons.mp hs with e | hs
    · subst e
      rw [hn]
      simp
      exact Nat.le_trans (List.length_filter_le _ _) (Nat.le_refl _)
    · have := ih hs
      unfold rmvS at this
      split
      · simp only [List.length_cons]
        omega
      · simp only [List.length_cons]
        omega
theorem BInv.trig1 {N : Nat} {b b1 : Bk} {s : Sd} {r : Rp} (i : BInv N b) (h : firstR b.last b.stops = some s) (x : EnterR s.price.isSome { b with stops := rmvS s.num b.stops } (odOf s) b1 r) : BInv N b1 := by
  have hs := firstR_mem h
  have hl := rmvS_len (n := s.num) hs rfl
  have q := i.len
  have i2 : BInv (N - 1) { b with stops := rmvS s.num b.stops } := ⟨i.good, fun z hz => i.stp z (List.mem_filter.mp hz).1, by show (b.L true).length + (b.L false).length + (rmvS s.num b.stops).length ≤ N - 1; omega⟩
  have := BInv.enter x i2 (by have := (i.stp s hs).1; show 0 ≤ s.qty; omega) (Int.le_refl _) (fun e => by
    show s.price = some (s.price.getD 0)
    cases hp : s.price with
    | none =>
      rw [hp] at e
      cases e
    | some v => rfl)
  rwa [Nat.sub_add_cancel (by omega)] at this
end K29
end

section
set_option Elab.async false
set_option maxRecDepth 100000
set_option maxHeartbeats 1000000
set_option linter.unusedVariables false
/-! the law's plain book, and that it goes as the program's -/
namespace K29
open PySem

/-! ### the law's own book -/
section
variable {α : Type}
def pick (f : α → Od) (rb : Bool) (lim : Option Int) (best : Option α) (x : α) : Option α :=
  if (f x).buy = rb ∧ acc (!rb) lim (f x).pr = true then
    match best with
    | none => some x
    | some y => if better rb (f x).pr (f y).pr = true then some x else some y
  else best
def lfirstG (f : α → Od) (rb : Bool) (lim : Option Int) (os : List α) : Option α := os.foldl (pick f rb lim) none
theorem pick_map (f : α → Od) (rb : Bool) (lim : Option Int) (best : Option α) (x : α) : (pick f rb lim best x).map f = pick id rb lim (best.map f) (f x) := by
  unfold pick
  by_cases h : (f x).buy = rb ∧ acc (!rb) lim (f x).pr = true
  · rw [if_pos h, if_pos (show (id (f x)).buy = rb ∧ acc (!rb) lim (id (f x)).pr = true from h)]
    cases best with
    | none => rfl
    | some y =>
      show (if better rb (f x).pr (f y).pr = true then some x else some y).map f = if better rb (f x).pr (f y).pr = true then some (f x) else some (f y)
      split <;> rfl
  · rw [if_neg h, if_neg (show ¬ ((id (f x)).buy = rb ∧ acc (!rb) lim (id (f x)).pr = true) from h)]
theorem foldl_pick_map (f : α → Od) (rb : Bool) (lim : Option Int) : ∀ (os : List α) (best : Option α), (os.foldl (pick f rb lim) best).map f = (os.map f).foldl (pick id rb lim) (best.map f)
  | [], _ => rfl
  | x :: os, best => by
    rw [List.foldl_cons, List.map_cons, List.foldl_cons, foldl_pick_map f rb lim os, pick_map]
theorem lfirstG_map (f : α → Od) (rb : Bool) (lim : Option Int) (os : List α) : (lfirstG f rb lim os).map f = lfirstG id rb lim (os.map f) := foldl_pick_map f rb lim os none
theorem foldl_pick_mem (f : α → Od) (rb : Bool) (lim : Option Int) : ∀ (os : List α) (best : Option α) (x : α), os.foldl (pick f rb lim) best = some x → best = some x ∨ x ∈ os
  | [], best, x, h => .inl h
  | y :: os, best, x, h => by
    rw [List.foldl_cons] at h
    rcases foldl_pick_mem f rb lim os _ x h with h | h
    · unfold pick at h
      split at h
      · cases best with
        | none =>
          cases h
          exact .inr List.mem_cons_self
        | some z =>
          simp only at h
          split at h
          · cases h
            exact .inr List.mem_cons_self
          · exact .inl h
      · exact .inl h
    · exact .inr (List.mem_cons_of_mem _ h)
theorem lfirstG_mem {f : α → Od} {rb : Bool} {lim : Option Int} {os : List α} {x : α} (h : lfirstG f rb lim os = some x) : x ∈ os := by
  rcases foldl_pick_mem f rb lim os none x h with h | h
  · cases h
  · exact h
end
abbrev lfirst (rb : Bool) (lim : Option Int) (os : List Od) : Option Od := lfirstG id rb lim os
structure LS where
  os : List Od
  left : Int
  fills : List Fl
  rem : List Int
def rmv (n : Int) (os : List Od) : List Od := os.filter fun o => !decide (o.num = n)
def setN (n : Int) (o' : Od) (os : List Od) : List Od := os.map fun o => if o.num = n then o' else o
def lvis (left shown : Int) : Int := if shown = 0 then left else minI left shown
def ldone (rb : Bool) (lim : Option Int) (s : LS) : Prop := s.left = 0 ∨ lfirst rb lim s.os = none
def lback (f : Od) (os : List Od) : List Od := if f.vis = 0 then (if 0 < f.left then rmv f.num os ++ [{ f with vis := lvis f.left f.shown }] else rmv f.num os) else setN f.num f os
def lstep (rb : Bool) (lim : Option Int) (h : Str) (s : LS) : LS := match lfirst rb lim s.os with
  | none => s
  | some f => if f.house = h then ⟨rmv f.num s.os, s.left, s.fills, s.rem ++ [f.num]⟩
    else ⟨lback (hit f (minI s.left f.vis)) s.os, s.left - minI s.left f.vis, s.fills ++ [⟨f.num, f.house, f.pr, minI s.left f.vis⟩], s.rem⟩
inductive LRun (rb : Bool) (lim : Option Int) (h : Str) : LS → LS → Prop
  | done {s : LS} : ldone rb lim s → LRun rb lim h s s
  | step {s t : LS} : ¬ ldone rb lim s → LRun rb lim h (lstep rb lim h s) t → LRun rb lim h s t
def lrest (rest : Bool) (o : Od) (t : LS) : List Od := if rests rest t.left then t.os ++ [{ o with left := t.left, vis := lvis t.left o.shown }] else t.os
def LEnterR (rest : Bool) (os : List Od) (o : Od) (os' : List Od) (r : Rp) : Prop := ∃ t, LRun (!o.buy) o.price o.house ⟨os, o.left, [], []⟩ t ∧ os' = lrest rest o t ∧ r = endRp rest o t.fills t.rem t.left
structure Lw where
  os : List Od
  stops : List Sd
  last : Option Int
inductive LTrigR : Lw → Lw → List Rp → Prop
  | done {w : Lw} : firstR w.last w.stops = none → LTrigR w w []
  | step {w w2 : Lw} {os1 : List Od} {s : Sd} {r : Rp} {rs : List Rp} : firstR w.last w.stops = some s → LEnterR s.price.isSome w.os (odOf s) os1 r → LTrigR ⟨os1, rmvS s.num w.stops, lastOf w.last r.fills⟩ w2 rs → LTrigR w w2 (r :: rs)

/-! ### the sorted side of the law's orders -/
def srt (b : Bool) (os : List Od) : List Od := (os.filter fun o => o.buy == b).foldl (fun L o => ins o L) []
theorem srt_nil (b : Bool) : srt b [] = [] := rfl
theorem srt_snoc (b : Bool) (os : List Od) (o : Od) : srt b (os ++ [o]) = if o.buy = b then ins o (srt b os) else srt b os := by
  unfold srt
  rw [List.filter_append, List.foldl_append]
  by_cases h : o.buy = b
  · rw [if_pos h, List.filter_cons, if_pos (by simpa using h)]
    rfl
  · rw [if_neg h, List.filter_cons, if_neg (by simpa using h)]
    rfl
theorem snoc_ind {P : List Od → Prop} (h0 : P []) (h1 : ∀ os o, P os → P (os ++ [o])) : ∀ os, P os := fun os => by
  have go : ∀ l : List Od, P l.reverse := fun l => by
    induction l with
    | nil => exact h0
    | cons a l ih =>
      rw [List.reverse_cons]
      exact h1 _ _ ih
  have := go os.reverse
  rwa [List.reverse_reverse] at this
theorem mem_srt {b : Bool} {x : Od} (os : List Od) : x ∈ srt b os ↔ x ∈ os ∧ x.buy = b := by
  refine snoc_ind (P := fun os => x ∈ srt b os ↔ x ∈ os ∧ x.buy = b) ?_ ?_ os
  · constructor
    · intro h
      cases h
    · rintro ⟨h, _⟩
      cases h
  · intro os o ih
    rw [srt_snoc]
    split
    · rename_i h
      rw [mem_ins, ih, List.mem_append, List.mem_singleton]
      constructor
      · rintro (e | ⟨h1, h2⟩)
        · exact ⟨.inr e, by rw [e]; exact h⟩
        · exact ⟨.inl h1, h2⟩
      · rintro ⟨h1 | h1, h2⟩
        · exact .inr ⟨h1, h2⟩
        · exact .inl h1
    · rename_i h
      rw [ih, List.mem_append, List.mem_singleton]
      constructor
      · rintro ⟨h1, h2⟩
        exact ⟨.inl h1, h2⟩
      · rintro ⟨h1 | h1, h2⟩
        · exact ⟨h1, h2⟩
        · exact absurd (h1 ▸ h2) h
theorem len_srt (os : List Od) : (srt true os).length + (srt false os).length = os.length := by
  refine snoc_ind (P := fun os => (srt true os).length + (srt false os).length = os.length) rfl ?_ os
  intro os o ih
  rw [srt_snoc, srt_snoc, List.length_append, List.length_singleton]
  cases h : o.buy
  · rw [if_neg (by decide), if_pos rfl, len_ins]
    omega
  · rw [if_pos rfl, if_neg (by decide), len_ins]
    omega
/-- no later one is better -/
def Sorted (b : Bool) (L : List Od) : Prop := L.Pairwise fun x y => better b y.pr x.pr = false
theorem better_tr {b : Bool} {x y z : Int} (h1 : better b y x = false) (h2 : better b z y = false) : better b z x = false := by
  unfold better at *
  cases b <;> simp at * <;> omega
theorem better_as {b : Bool} {x y : Int} (h1 : better b x y = true) : better b y x = false := by
  unfold better at *
  cases b <;> simp at * <;> omega
theorem sorted_ins {b : Bool} {o : Od} (ho : o.buy = b) : ∀ {L : List Od}, Sorted b L → Sorted b (ins o L)
  | [], _ => List.pairwise_singleton _ _
  | r :: rs, h => by
    rw [ins_cons]
    have h1 := List.pairwise_cons.mp h
    split
    · rename_i hb
      rw [ho] at hb
      refine List.pairwise_cons.mpr ⟨fun y hy => ?_, h⟩
      rcases List.mem_cons.mp hy with e | hy
      · rw [e]
        exact better_as hb
      · exact better_tr (better_as hb) (h1.1 y hy)
    · rename_i hb
      rw [ho] at hb
      refine List.pairwise_cons.mpr ⟨fun y hy => ?_, sorted_ins ho h1.2⟩
      rcases mem_ins.mp hy with e | hy
      · rw [e]
        simpa using hb
      · exact h1.1 y hy
theorem sorted_srt (b : Bool) (os : List Od) : Sorted b (srt b os) := by
  refine snoc_ind (P := fun os => Sorted b (srt b os)) List.Pairwise.nil ?_ os
  intro os o ih
  rw [srt_snoc]
  split
  · rename_i h
    exact sorted_ins h ih
  · exact ih
theorem ins_first {b : Bool} {o : Od} (ho : o.buy = b) : ∀ {L : List Od}, (∀ y ∈ L, better b o.pr y.pr = true) → ins o L = o :: L
  | [], _ => rfl
  | r :: rs, h => by
    rw [ins_cons, if_pos (by rw [ho]; exact h r List.mem_cons_self)]
theorem filter_ins {b : Bool} {o : Od} (ho : o.buy = b) (p : Od → Bool) : ∀ {L : List Od}, Sorted b L → (ins o L).filter p = if p o = true then ins o (L.filter p) else L.filter p
  | [], _ => by
    show ([o].filter p) = if p o = true then [o] else []
    rw [List.filter_cons]
    rfl
  | r :: rs, h => by
    have h1 := List.pairwise_cons.mp h
    rw [ins_cons]
    split
    · rename_i hb
      rw [List.filter_cons]
      split
      · rename_i hp
        rw [ins_first ho]
        intro y hy
        rw [ho] at hb
        rcases List.mem_cons.mp (List.mem_filter.mp hy).1 with e | hy'
        · rw [e]
          exact hb
        · have h2 := h1.1 y hy'
          unfold better at *
          cases b <;> simp at * <;> omega
      · rfl
    · rename_i hb
      rw [List.filter_cons, filter_ins ho p h1.2, List.filter_cons]
      split
      · split
        · rw [ins_cons, if_neg hb]
        · rfl
      · rfl
theorem srt_filter (b : Bool) (p : Od → Bool) (os : List Od) : srt b (os.filter p) = (srt b os).filter p := by
  refine snoc_ind (P := fun os => srt b (os.filter p) = (srt b os).filter p) rfl ?_ os
  intro os o ih
  rw [List.filter_append, List.filter_cons, srt_snoc]
  by_cases hp : p o = true
  · rw [if_pos hp, List.filter_nil, srt_snoc, ih]
    split
    · rename_i h
      rw [filter_ins h p (sorted_srt b os), if_pos hp]
    · rfl
  · rw [if_neg hp, List.filter_nil, List.append_nil, ih]
    split
    · rename_i h
      rw [filter_ins h p (sorted_srt b os), if_neg hp]
    · rfl
theorem map_ins' {o : Od} {g : Od → Od} (hb : (g o).buy = o.buy) (hp : (g o).pr = o.pr) : ∀ {L : List Od}, (∀ x ∈ L, (g x).pr = x.pr) → (ins o L).map g = ins (g o) (L.map g)
  | [], _ => rfl
  | r :: rs, h => by
    rw [ins_cons, List.map_cons, ins_cons, hb, hp, h r List.mem_cons_self]
    split
    · rfl
    · rw [List.map_cons, map_ins' hb hp fun x hx => h x (List.mem_cons_of_mem _ hx)]
theorem srt_map (b : Bool) (g : Od → Od) (os : List Od) : (∀ x ∈ os, (g x).buy = x.buy ∧ (g x).pr = x.pr) → srt b (os.map g) = (srt b os).map g := by
  refine snoc_ind (P := fun os => (∀ x ∈ os, (g x).buy = x.buy ∧ (g x).pr = x.pr) → srt b (os.map g) = (srt b os).map g) (fun _ => rfl) ?_ os
  intro os o ih h
  have h1 := h o (List.mem_append_right _ List.mem_cons_self)
  have h2 : ∀ x ∈ os, (g x).buy = x.buy ∧ (g x).pr = x.pr := fun x hx => h x (List.mem_append_left _ hx)
  rw [List.map_append, List.map_cons, List.map_nil, srt_snoc, srt_snoc, h1.1, ih h2]
  split
  · rw [map_ins' h1.1 h1.2]
    intro x hx
    exact (h2 x ((mem_srt os).mp hx).1).2
  · rfl
theorem head_ins (o : Od) (L : List Od) : (ins o L).head? = match L.head? with
    | none => some o
    | some h => if better o.buy o.pr h.pr = true then some o else some h := by
  cases L with
  | nil => rfl
  | cons r rs =>
    rw [ins_cons]
    show _ = if better o.buy o.pr r.pr = true then some o else some r
    split <;> rfl
theorem lfirst_head (rb : Bool) (lim : Option Int) (os : List Od) : lfirst rb lim os = (srt rb (os.filter fun o => acc (!rb) lim o.pr)).head? := by
  refine snoc_ind (P := fun os => lfirst rb lim os = (srt rb (os.filter fun o => acc (!rb) lim o.pr)).head?) rfl ?_ os
  intro os o ih
  have e : lfirst rb lim (os ++ [o]) = pick id rb lim (lfirst rb lim os) o := by
    show (os ++ [o]).foldl (pick id rb lim) none = _
    rw [List.foldl_append]
    rfl
  rw [e, ih, List.filter_append, List.filter_cons]
  unfold pick
  by_cases ha : acc (!rb) lim o.pr = true
  · rw [if_pos ha, List.filter_nil, srt_snoc]
    by_cases hb : o.buy = rb
    · rw [if_pos (show (id o).buy = rb ∧ acc (!rb) lim (id o).pr = true from ⟨hb, ha⟩), if_pos hb, head_ins, hb]
      cases (srt rb (os.filter fun o => acc (!rb) lim o.pr)).head? <;> rfl
    · rw [if_neg (fun q => hb q.1), if_neg hb]
  · rw [if_neg (fun q => ha q.2), if_neg ha, List.filter_nil, List.append_nil]
theorem acc_mono {rb : Bool} {lim : Option Int} {x y : Int} (h : better rb y x = false) (ha : acc (!rb) lim y = true) : acc (!rb) lim x = true := by
  unfold better at h
  unfold acc at *
  cases lim with
  | none => rfl
  | some l => cases rb <;> simp at * <;> omega
/-- the first that fits is the first of the sorted side, if that one fits -/
theorem lfirst_eq (rb : Bool) (lim : Option Int) (os : List Od) : lfirst rb lim os = match srt rb os with
    | [] => none
    | f :: _ => if acc (!rb) lim f.pr = true then some f else none := by
  rw [lfirst_head, srt_filter]
  have hs := sorted_srt rb os
  cases h : srt rb os with
  | nil => rfl
  | cons f L =>
    rw [h] at hs
    rw [List.filter_cons]
    show _ = if acc (!rb) lim f.pr = true then some f else none
    split
    · rfl
    · rename_i hf
      have : L.filter (fun o => acc (!rb) lim o.pr) = [] := by
        rw [List.filter_eq_nil_iff]
        intro x hx ha
        exact hf (acc_mono ((List.pairwise_cons.mp hs).1 x hx) ha)
      rw [this]
      rfl
end K29
end

section
set_option Elab.async false
set_option maxRecDepth 100000
set_option maxHeartbeats 1000000
set_option linter.unusedVariables false
/-! a step, a run, an order, the stop orders: the law's as the program's -/
namespace K29
open PySem

structure LInv (os : List Od) : Prop where
  nd : (os.map (·.num)).Nodup
  good : ∀ o ∈ os, Good o
theorem srt_perm (b : Bool) (os : List Od) : (srt b os).Perm (os.filter fun o => o.buy == b) := by
  refine snoc_ind (P := fun os => (srt b os).Perm (os.filter fun o => o.buy == b)) (List.Perm.refl _) ?_ os
  intro os o ih
  rw [srt_snoc, List.filter_append, List.filter_cons]
  by_cases h : o.buy = b
  · rw [if_pos h, if_pos (by simpa using h), List.filter_nil]
    exact ((insG_perm id o _).trans (ih.cons o)).trans (List.perm_append_singleton o _).symm
  · rw [if_neg h, if_neg (by simpa using h), List.filter_nil, List.append_nil]
    exact ih
theorem nd_filter {p : Od → Bool} {os : List Od} (h : (os.map (·.num)).Nodup) : ((os.filter p).map (·.num)).Nodup := h.sublist (List.filter_sublist.map _)
theorem nd_srt {b : Bool} {os : List Od} (h : (os.map (·.num)).Nodup) : ((srt b os).map (·.num)).Nodup := (((srt_perm b os).map (·.num)).nodup_iff).mpr (nd_filter h)
theorem uniq : ∀ {os : List Od}, (os.map (·.num)).Nodup → ∀ {x y : Od}, x ∈ os → y ∈ os → x.num = y.num → x = y
  | [], _, x, y, h, _, _ => by cases h
  | o :: os, hn, x, y, hx, hy, e => by
    rw [List.map_cons, List.nodup_cons] at hn
    rcases List.mem_cons.mp hx with hx | hx
    · rcases List.mem_cons.mp hy with hy | hy
      · rw [hx, hy]
      · exact absurd (List.mem_map.mpr ⟨y, hy, by rw [← e, hx]⟩) hn.1
    · rcases List.mem_cons.mp hy with hy | hy
      · exact absurd (List.mem_map.mpr ⟨x, hx, by rw [e, hy]⟩) hn.1
      · exact uniq hn.2 hx hy e
theorem rmv_none {n : Int} {L : List Od} (h : ∀ x ∈ L, x.num ≠ n) : rmv n L = L := by
  unfold rmv
  rw [List.filter_eq_self]
  intro x hx
  rw [decide_eq_false (h x hx)]
  rfl
theorem rmv_self {f : Od} {L : List Od} (h : ((f :: L).map (·.num)).Nodup) : rmv f.num (f :: L) = L := by
  rw [List.map_cons, List.nodup_cons] at h
  have : rmv f.num (f :: L) = rmv f.num L := by
    unfold rmv
    rw [List.filter_cons, if_neg (by simp)]
  rw [this]
  exact rmv_none fun x hx e => h.1 (List.mem_map.mpr ⟨x, hx, e⟩)
theorem mem_rmv {n : Int} {x : Od} {os : List Od} : x ∈ rmv n os ↔ x ∈ os ∧ x.num ≠ n := by
  unfold rmv
  rw [List.mem_filter]
  simp
theorem setN_none {n : Int} {f : Od} {L : List Od} (h : ∀ x ∈ L, x.num ≠ n) : setN n f L = L := by
  unfold setN
  have : L.map (fun o => if o.num = n then f else o) = L.map (fun o => o) := List.map_congr_left fun x hx => if_neg (h x hx)
  rw [this, List.map_id']
theorem setN_nums {n : Int} {f : Od} (hf : f.num = n) (L : List Od) : (setN n f L).map (·.num) = L.map (·.num) := by
  unfold setN
  rw [List.map_map]
  refine List.map_congr_left fun x _ => ?_
  show (if x.num = n then f else x).num = x.num
  split
  · rename_i h
    rw [hf, h]
  · rfl
theorem other_of {b : Bool} {f x : Od} {os : List Od} (nd : (os.map (·.num)).Nodup) (hf : f ∈ os) (hb : f.buy = b) : ∀ x ∈ srt (!b) os, x.num ≠ f.num := fun x hx e => by
  obtain ⟨h1, h2⟩ := (mem_srt os).mp hx
  have := uniq nd h1 hf e
  rw [this, hb] at h2
  cases b <;> cases h2
theorem lvis_part {left shown : Int} (h : 0 ≤ shown) : lvis left shown = part shown left := by
  unfold lvis part
  by_cases h0 : shown = 0
  · rw [if_pos h0, if_neg (by omega)]
  · rw [if_neg h0, if_pos (by omega)]
    unfold minI
    split <;> split <;> omega

structure LStep (rb : Bool) (h : Str) (s : LS) (s' : LS) : Prop where
  m : (⟨srt rb s'.os, s'.left, s'.fills, s'.rem⟩ : MS) = mstep h ⟨srt rb s.os, s.left, s.fills, s.rem⟩
  o : srt (!rb) s'.os = srt (!rb) s.os
  i : LInv s'.os
  nums : ∀ x ∈ s'.os, ∃ y ∈ s.os, y.num = x.num
  len : s'.os.length ≤ s.os.length
theorem rmv_len (n : Int) (os : List Od) : (rmv n os).length ≤ os.length := List.length_filter_le _ _
theorem rmv_len1 {n : Int} {os : List Od} {f : Od} (hf : f ∈ os) (e : f.num = n) : (rmv n os).length + 1 ≤ os.length := by
  induction os with
  | nil => cases hf
  | cons a r ih =>
    unfold rmv
    rw [List.filter_cons]
    rcases List.mem_cons.mp hf with q | q
    · subst q
      rw [if_neg (by simp [e])]
      exact Nat.succ_le_succ (List.length_filter_le _ _)
    · have := ih q
      unfold rmv at this
      split
      · simp only [List.length_cons]
        omega
      · simp only [List.length_cons]
        omega
theorem lstep_rel {rb : Bool} {lim : Option Int} {h : Str} {s : LS} (i : LInv s.os) (h0 : 0 < s.left) {f : Od} {L : List Od} (e : srt rb s.os = f :: L) (ha : acc (!rb) lim f.pr = true) : LStep rb h s (lstep rb lim h s) := by
  obtain ⟨os, left, fills, rem⟩ := s
  simp only at i h0 e
  have hfm : f ∈ os ∧ f.buy = rb := (mem_srt os).mp (by rw [e]; exact List.mem_cons_self)
  obtain ⟨hf, hfb⟩ := hfm
  have hl : lfirst rb lim os = some f := by
    rw [lfirst_eq, e]
    show (if acc (!rb) lim f.pr = true then some f else none) = some f
    rw [if_pos ha]
  have ndL : ((f :: L).map (·.num)).Nodup := by
    rw [← e]
    exact nd_srt i.nd
  have hoth := other_of (b := rb) (x := f) i.nd hf hfb
  have erm : srt rb (rmv f.num os) = L := by
    unfold rmv
    rw [srt_filter, e]
    exact rmv_self ndL
  have ero : srt (!rb) (rmv f.num os) = srt (!rb) os := by
    unfold rmv
    rw [srt_filter]
    exact rmv_none hoth
  have irm : LInv (rmv f.num os) := ⟨nd_filter i.nd, fun o ho => i.good o (mem_rmv.mp ho).1⟩
  have el : lstep rb lim h ⟨os, left, fills, rem⟩ = if f.house = h then ⟨rmv f.num os, left, fills, rem ++ [f.num]⟩
      else ⟨lback (hit f (minI left f.vis)) os, left - minI left f.vis, fills ++ [⟨f.num, f.house, f.pr, minI left f.vis⟩], rem⟩ := by
    unfold lstep
    rw [hl]
  rw [el]
  by_cases hh : f.house = h
  · rw [if_pos hh]
    refine ⟨?_, ero, irm, fun x hx => ⟨x, (mem_rmv.mp hx).1, rfl⟩, rmv_len _ _⟩
    show _ = mstep h ⟨srt rb os, left, fills, rem⟩
    rw [e, mstep_cons, if_pos hh]
    show (⟨srt rb (rmv f.num os), left, fills, rem ++ [f.num]⟩ : MS) = _
    rw [erm]
  · rw [if_neg hh]
    have em : mstep h ⟨srt rb os, left, fills, rem⟩ = ⟨back (hit f (minI left f.vis)) L, left - minI left f.vis, fills ++ [⟨f.num, f.house, f.pr, minI left f.vis⟩], rem⟩ := by
      rw [e, mstep_cons, if_neg hh]
    have gf := i.good f hf
    have hv := hit_good gf h0
    have hn : (hit f (minI left f.vis)).num = f.num := rfl
    have hpr : (hit f (minI left f.vis)).pr = f.pr := rfl
    have hbu : (hit f (minI left f.vis)).buy = rb := hfb
    have hsh : 0 ≤ (hit f (minI left f.vis)).shown := gf.2.2.1
    have hpp : (hit f (minI left f.vis)).price = some (hit f (minI left f.vis)).pr := gf.2.2.2
    generalize hit f (minI left f.vis) = f' at hv hn hpr hbu hsh hpp em ⊢
    have goal : srt rb (lback f' os) = back f' L ∧ srt (!rb) (lback f' os) = srt (!rb) os ∧ LInv (lback f' os) ∧ (∀ x ∈ lback f' os, ∃ y ∈ os, y.num = x.num) ∧ (lback f' os).length ≤ os.length := by
      unfold lback back
      rw [← hn] at erm ero irm
      by_cases hv0 : f'.vis = 0
      · rw [if_pos hv0, if_pos hv0]
        by_cases hl0 : 0 < f'.left
        · rw [if_pos hl0, if_neg (by omega)]
          have es : ({ f' with vis := lvis f'.left f'.shown } : Od) = f'.show := by
            unfold Od.show
            rw [lvis_part hsh]
          have esb : f'.show.buy = rb := hbu
          rw [es]
          refine ⟨?_, ?_, ⟨?_, fun o ho => ?_⟩, fun x hx => ?_, ?_⟩
          · rw [srt_snoc, if_pos esb, erm]
          · rw [srt_snoc, if_neg (by rw [esb]; cases rb <;> decide), ero]
          · rw [List.map_append, List.nodup_append]
            refine ⟨irm.nd, by simp, fun a ha b hb => ?_⟩
            obtain ⟨x, hx, rfl⟩ := List.mem_map.mp ha
            rw [List.map_cons, List.map_nil, List.mem_singleton] at hb
            rw [hb]
            show x.num ≠ f'.num
            exact (mem_rmv.mp hx).2
          · rcases List.mem_append.mp ho with ho | ho
            · exact irm.good o ho
            · rw [List.mem_singleton.mp ho]
              exact show_good hl0 hsh hpp
          · rcases List.mem_append.mp hx with hx | hx
            · exact ⟨x, (mem_rmv.mp hx).1, rfl⟩
            · rw [List.mem_singleton.mp hx]
              exact ⟨f, hf, hn.symm⟩
          · rw [List.length_append, List.length_singleton]
            exact rmv_len1 hf hn.symm
        · rw [if_neg hl0, if_pos (show f'.left = 0 by omega)]
          exact ⟨erm, ero, irm, fun x hx => ⟨x, (mem_rmv.mp hx).1, rfl⟩, rmv_len _ _⟩
      · rw [if_neg hv0, if_neg hv0, if_neg (show ¬ f'.left = 0 by omega)]
        have hg : ∀ x ∈ os, (if x.num = f'.num then f' else x).buy = x.buy ∧ (if x.num = f'.num then f' else x).pr = x.pr := fun x hx => by
          split
          · rename_i q
            have := uniq i.nd hx hf (q.trans hn)
            rw [this]
            exact ⟨by rw [hbu, hfb], hpr⟩
          · exact ⟨rfl, rfl⟩
        refine ⟨?_, ?_, ⟨?_, fun o ho => ?_⟩, fun x hx => ?_, ?_⟩
        · unfold setN
          rw [srt_map rb _ os hg, e, List.map_cons, if_pos hn.symm]
          rw [List.map_cons, List.nodup_cons] at ndL
          have := setN_none (n := f'.num) (f := f') (L := L) fun x hx q => ndL.1 (List.mem_map.mpr ⟨x, hx, q.trans hn⟩)
          unfold setN at this
          rw [this]
        · unfold setN
          rw [srt_map (!rb) _ os hg]
          exact setN_none fun x hx q => hoth x hx (q.trans hn)
        · rw [setN_nums rfl]
          exact i.nd
        · unfold setN at ho
          obtain ⟨x, hx, rfl⟩ := List.mem_map.mp ho
          split
          · exact ⟨by omega, hv.2, hsh, hpp⟩
          · exact i.good x hx
        · unfold setN at hx
          obtain ⟨y, hy, rfl⟩ := List.mem_map.mp hx
          refine ⟨y, hy, ?_⟩
          split
          · rename_i q
            exact q
          · rfl
        · unfold setN
          rw [List.length_map]
          exact Nat.le_refl _
    refine ⟨?_, goal.2.1, goal.2.2.1, goal.2.2.2.1, goal.2.2.2.2⟩
    show _ = mstep h ⟨srt rb os, left, fills, rem⟩
    rw [em]
    show (⟨srt rb (lback f' os), _, _, _⟩ : MS) = _
    rw [goal.1]

theorem ldone_iff {rb : Bool} {lim : Option Int} {s : LS} (h0 : 0 ≤ s.left) : ldone rb lim s ↔ mdone (!rb) lim ⟨srt rb s.os, s.left, s.fills, s.rem⟩ := by
  unfold ldone mdone
  rw [lfirst_eq]
  constructor
  · rintro (h | h)
    · exact .inl (by show s.left ≤ 0; omega)
    · refine .inr fun f hf => ?_
      have hf' : (srt rb s.os).head? = some f := hf
      cases e : srt rb s.os with
      | nil =>
        rw [e] at hf'
        cases hf'
      | cons g L =>
        rw [e] at hf' h
        cases hf'
        simp only at h
        split at h
        · cases h
        · rename_i q
          simpa using q
  · rintro (h | h)
    · have h : s.left ≤ 0 := h
      exact .inl (by omega)
    · refine .inr ?_
      cases e : srt rb s.os with
      | nil => rfl
      | cons g L =>
        have := h g (by show (srt rb s.os).head? = some g; rw [e]; rfl)
        show (if acc (!rb) lim g.pr = true then some g else none) = none
        rw [if_neg (by rw [this]; decide)]
theorem mdone_L {b : Bool} {lim : Option Int} {s : MS} (h : ¬ mdone b lim s) : 0 < s.left ∧ ∃ f L, s.L = f :: L ∧ acc b lim f.pr = true := not_mdone h
structure LRel (rb : Bool) (h : Str) (lim : Option Int) (s t : LS) : Prop where
  m : MRun (!rb) h lim ⟨srt rb s.os, s.left, s.fills, s.rem⟩ ⟨srt rb t.os, t.left, t.fills, t.rem⟩
  o : srt (!rb) t.os = srt (!rb) s.os
  i : LInv t.os
  nums : ∀ x ∈ t.os, ∃ y ∈ s.os, y.num = x.num
  len : t.os.length ≤ s.os.length
  left : 0 ≤ t.left ∧ t.left ≤ s.left
theorem LRun.rel {rb : Bool} {lim : Option Int} {h : Str} {s t : LS} (x : LRun rb lim h s t) (i : LInv s.os) (h0 : 0 ≤ s.left) : LRel rb h lim s t := by
  induction x with
  | done d => exact ⟨.done ((ldone_iff h0).mp d), rfl, i, fun x hx => ⟨x, hx, rfl⟩, Nat.le_refl _, h0, Int.le_refl _⟩
  | @step s t n _ ih =>
    have nm := mt (ldone_iff h0).mpr n
    obtain ⟨hp, f, L, e, ha⟩ := mdone_L nm
    have st := lstep_rel (h := h) i hp e ha
    have ok := mstep_ok (c := rb) (h := h) nm ⟨fun f hf => ⟨i.good f ((mem_srt s.os).mp hf).1, ((mem_srt s.os).mp hf).2⟩, h0⟩
    have el : (mstep h ⟨srt rb s.os, s.left, s.fills, s.rem⟩).left = (lstep rb lim h s).left := by rw [← st.m]
    have h1 : 0 ≤ (lstep rb lim h s).left := by
      rw [← el]
      exact ok.1.left
    have h2 : (lstep rb lim h s).left ≤ s.left := by
      rw [← el]
      exact ok.2.2.2.1
    have r := ih st.i h1
    refine ⟨.step nm (by rw [← st.m]; exact r.m), r.o.trans st.o, r.i, fun x hx => ?_, Nat.le_trans r.len st.len, r.left.1, Int.le_trans r.left.2 h2⟩
    obtain ⟨y, hy, e1⟩ := r.nums x hx
    obtain ⟨z, hz, e2⟩ := st.nums y hy
    exact ⟨z, hz, e2.trans e1⟩

/-! ### an order -/
theorem lrest_rel {rest : Bool} {o : Od} {s t : LS} (r : LRel (!o.buy) o.house o.price s t) (hs : 0 ≤ o.shown) (hp : rest = true → o.price = some o.pr) (hn : ∀ x ∈ s.os, x.num ≠ o.num) :
    srt (!o.buy) (lrest rest o t) = srt (!o.buy) t.os ∧ srt o.buy (lrest rest o t) = restL rest o t.left (srt o.buy s.os) ∧ LInv (lrest rest o t) ∧ (∀ x ∈ lrest rest o t, x.num = o.num ∨ ∃ y ∈ s.os, y.num = x.num) ∧ (lrest rest o t).length ≤ s.os.length + 1 := by
  have eo : srt o.buy t.os = srt o.buy s.os := by
    have := r.o
    rwa [Bool.not_not] at this
  unfold lrest restL
  split
  · rename_i hr
    have es : ({ o with left := t.left, vis := lvis t.left o.shown } : Od) = ({ o with left := t.left } : Od).show := by
      unfold Od.show
      rw [lvis_part hs]
    rw [es]
    refine ⟨?_, ?_, ⟨?_, fun x hx => ?_⟩, fun x hx => ?_, ?_⟩
    · rw [srt_snoc, if_neg]
      show ¬ o.buy = !o.buy
      cases o.buy <;> decide
    · rw [srt_snoc, eo]
      exact if_pos rfl
    · rw [List.map_append, List.nodup_append]
      refine ⟨r.i.nd, by simp, fun a ha b hb => ?_⟩
      obtain ⟨x, hx, rfl⟩ := List.mem_map.mp ha
      rw [List.map_cons, List.map_nil, List.mem_singleton] at hb
      rw [hb]
      obtain ⟨y, hy, e⟩ := r.nums x hx
      show x.num ≠ o.num
      rw [← e]
      exact hn y hy
    · rcases List.mem_append.mp hx with hx | hx
      · exact r.i.good x hx
      · rw [List.mem_singleton.mp hx]
        exact show_good hr.2 hs (hp hr.1)
    · rcases List.mem_append.mp hx with hx | hx
      · exact .inr (r.nums x hx)
      · rw [List.mem_singleton.mp hx]
        exact .inl rfl
    · rw [List.length_append, List.length_singleton]
      exact Nat.succ_le_succ r.len
  · exact ⟨rfl, eo, r.i, fun x hx => .inr (r.nums x hx), Nat.le_succ_of_le r.len⟩

/-- the two books say the same -/
structure Rel (b : Bk) (w : Lw) : Prop where
  L : ∀ s, b.L s = srt s w.os
  stops : b.stops = w.stops
  last : b.last = w.last
structure EnterOut (o : Od) (os os' : List Od) : Prop where
  i : LInv os'
  nums : ∀ x ∈ os', x.num = o.num ∨ ∃ y ∈ os, y.num = x.num
  len : os'.length ≤ os.length + 1
theorem enter_rel {rest : Bool} {b b' : Bk} {w : Lw} {o : Od} {os' : List Od} {r r' : Rp} (R : Rel b w) (i : LInv w.os) (h0 : 0 ≤ o.left) (hs : 0 ≤ o.shown) (hp : rest = true → o.price = some o.pr) (hn : ∀ x ∈ w.os, x.num ≠ o.num)
    (x : EnterR rest b o b' r) (y : LEnterR rest w.os o os' r') : r = r' ∧ Rel b' ⟨os', w.stops, lastOf w.last r.fills⟩ ∧ EnterOut o w.os os' := by
  obtain ⟨t, m, rfl, rfl⟩ := x
  obtain ⟨u, l, rfl, rfl⟩ := y
  have lr := l.rel i h0
  have lm := lr.m
  rw [Bool.not_not, ← R.L] at lm
  have e := m.det lm
  obtain ⟨q1, q2, q3, q4, q5⟩ := lrest_rel (rest := rest) lr hs hp hn
  subst e
  refine ⟨rfl, ⟨fun s => ?_, R.stops, ?_⟩, q3, q4, q5⟩
  · show (if s = o.buy then restL rest o u.left (b.L s) else srt (!o.buy) u.os) = srt s (lrest rest o u)
    by_cases hsb : s = o.buy
    · rw [if_pos hsb, hsb, q2, R.L]
    · rw [if_neg hsb]
      have : s = !o.buy := by cases s <;> cases hb : o.buy <;> simp_all
      rw [this, q1]
  · show lastOf b.last u.fills = lastOf w.last u.fills
    rw [R.last]
structure WInv (N : Nat) (w : Lw) : Prop where
  os : LInv w.os
  sp : (w.stops.map (·.num)).Pairwise (· < ·)
  dj : ∀ s ∈ w.stops, ∀ o ∈ w.os, o.num ≠ s.num
  qty : ∀ s ∈ w.stops, 1 ≤ s.qty ∧ s.qty ≤ 1000
  len : w.os.length + w.stops.length ≤ N
theorem rmvS_num {n : Int} {ss : List Sd} {s : Sd} (h : s ∈ rmvS n ss) : s ∈ ss ∧ s.num ≠ n := by
  unfold rmvS at h
  obtain ⟨h1, h2⟩ := List.mem_filter.mp h
  exact ⟨h1, by simpa using h2⟩
theorem trig_step {N : Nat} {w : Lw} {s : Sd} {os1 : List Od} {last : Option Int} (i : WInv N w) (h : firstR w.last w.stops = some s) (q : EnterOut (odOf s) w.os os1) : WInv N ⟨os1, rmvS s.num w.stops, last⟩ := by
  have hs := firstR_mem h
  refine ⟨q.i, i.sp.sublist (List.filter_sublist.map _), fun z hz o ho e => ?_, fun z hz => i.qty z (rmvS_num hz).1, ?_⟩
  · obtain ⟨h1, h2⟩ := rmvS_num hz
    rcases q.nums o ho with e2 | ⟨y, hy, e2⟩
    · exact h2 (e.symm.trans e2)
    · exact i.dj z h1 y hy (e2.trans e)
  · have := rmvS_len (n := s.num) hs rfl
    have := q.len
    have := i.len
    show os1.length + (rmvS s.num w.stops).length ≤ N
    omega
theorem odOf_price {s : Sd} (e : s.price.isSome = true) : (odOf s).price = some (odOf s).pr := by
  show s.price = some (s.price.getD 0)
  cases hp : s.price with
  | none =>
    rw [hp] at e
    cases e
  | some v => rfl
theorem trig_rel {N : Nat} {b b' : Bk} {rs : List Rp} (x : TrigR b b' rs) : ∀ {w w' : Lw} {rs' : List Rp}, Rel b w → WInv N w → LTrigR w w' rs' → rs = rs' ∧ Rel b' w' ∧ WInv N w' := by
  induction x with
  | @done b h =>
    intro w w' rs' R i y
    cases y with
    | done _ => exact ⟨rfl, R, i⟩
    | step h2 _ _ =>
      rw [R.last, R.stops, h2] at h
      cases h
  | @step b b1 b2 s r rs h en _ ih =>
    intro w w' rs' R i y
    cases y with
    | done h2 =>
      rw [R.last, R.stops, h2] at h
      cases h
    | @step _ _ os1 s2 r2 rs2 h2 en2 y2 =>
      rw [R.last, R.stops, h2] at h
      cases h
      have hs := firstR_mem h2
      have R1 : Rel { b with stops := rmvS s.num b.stops } ⟨w.os, rmvS s.num w.stops, w.last⟩ := ⟨R.L, by show rmvS s.num b.stops = _; rw [R.stops], R.last⟩
      obtain ⟨e, R2, q⟩ := enter_rel R1 i.os (o := odOf s) (by have := (i.qty s hs).1; show 0 ≤ s.qty; omega) (Int.le_refl _) odOf_price (fun x hx => i.dj s hs x hx) en en2
      subst e
      obtain ⟨e3, R3, i3⟩ := ih R2 (trig_step i h2 q) y2
      exact ⟨by rw [e3], R3, i3⟩
end K29
end

section
set_option Elab.async false
set_option maxRecDepth 100000
/-! the attributes of the instances, by name -/
namespace K29
open PySem L2
def sd (b : Bool) : Str := if b = true then "buy" else "sell"
def pV : Option Int → V
  | none => .non
  | some i => .int i
theorem sd_buy (b : Bool) : decide (V.str (sd b) = V.str "buy") = b := by cases b <;> decide +kernel
theorem sd_sell (b : Bool) : decide (V.str (sd b) = V.str "sell") = !b := by cases b <;> decide +kernel
theorem sd_eq (b c : Bool) : decide (V.str (sd b) = V.str (sd c)) = decide (b = c) := by cases b <;> cases c <;> decide +kernel
theorem sd_inj {b c : Bool} (h : sd b = sd c) : b = c := by
  have := sd_eq b c
  rw [h] at this
  simpa using this.symm
theorem pV_non (x : Option Int) : decide (pV x = V.non) = x.isNone := by cases x <;> rfl
theorem str_eq (x y : Str) : decide (V.str x = V.str y) = decide (x = y) := by
  by_cases h : x = y
  · subst h; simp
  · simp [h]
theorem int_eq (x y : Int) : decide (V.int x = V.int y) = decide (x = y) := by
  by_cases h : x = y
  · subst h; simp
  · simp [h]
def ofs (o : Od) : List (Str × V) := [("number", .int o.num), ("house", .str o.house), ("side", .str (sd o.buy)), ("price", pV o.price), ("left", .int o.left), ("shown", .int o.shown), ("visible", .int o.vis)]
theorem ofs_number (o : Od) : (ofs o).lookup ("number" : Str) = some (V.int o.num) := by kernel_rfl
theorem ofs_house (o : Od) : (ofs o).lookup ("house" : Str) = some (V.str o.house) := by kernel_rfl
theorem ofs_side (o : Od) : (ofs o).lookup ("side" : Str) = some (V.str (sd o.buy)) := by kernel_rfl
theorem ofs_price (o : Od) : (ofs o).lookup ("price" : Str) = some (pV o.price) := by kernel_rfl
theorem ofs_left (o : Od) : (ofs o).lookup ("left" : Str) = some (V.int o.left) := by kernel_rfl
theorem ofs_shown (o : Od) : (ofs o).lookup ("shown" : Str) = some (V.int o.shown) := by kernel_rfl
theorem ofs_visible (o : Od) : (ofs o).lookup ("visible" : Str) = some (V.int o.vis) := by kernel_rfl
theorem ofs_no_show_next_part (o : Od) : (ofs o).lookup ("show_next_part" : Str) = none := by kernel_rfl
theorem ofs_no_take (o : Od) : (ofs o).lookup ("take" : Str) = none := by kernel_rfl
theorem ofs_no_reduce (o : Od) : (ofs o).lookup ("reduce" : Str) = none := by kernel_rfl
theorem ofs_no_entry (o : Od) : (ofs o).lookup ("entry" : Str) = none := by kernel_rfl
def sfs (s : Sd) : List (Str × V) := [("number", .int s.num), ("house", .str s.house), ("side", .str (sd s.buy)), ("trigger", .int s.trig), ("price", pV s.price), ("quantity", .int s.qty)]
theorem sfs_number (s : Sd) : (sfs s).lookup ("number" : Str) = some (V.int s.num) := by kernel_rfl
theorem sfs_house (s : Sd) : (sfs s).lookup ("house" : Str) = some (V.str s.house) := by kernel_rfl
theorem sfs_side (s : Sd) : (sfs s).lookup ("side" : Str) = some (V.str (sd s.buy)) := by kernel_rfl
theorem sfs_trigger (s : Sd) : (sfs s).lookup ("trigger" : Str) = some (V.int s.trig) := by kernel_rfl
theorem sfs_price (s : Sd) : (sfs s).lookup ("price" : Str) = some (pV s.price) := by kernel_rfl
theorem sfs_quantity (s : Sd) : (sfs s).lookup ("quantity" : Str) = some (V.int s.qty) := by kernel_rfl
theorem sfs_no_is_reached (s : Sd) : (sfs s).lookup ("is_reached" : Str) = none := by kernel_rfl
theorem sfs_no_entry (s : Sd) : (sfs s).lookup ("entry" : Str) = none := by kernel_rfl
def rfs (n : Int) (h : Str) (b : Bool) (f r : Addr) (k : Int) : List (Str × V) := [("number", .int n), ("house", .str h), ("side", .str (sd b)), ("fills", .ref f), ("removed", .ref r), ("resting", .int k)]
theorem rfs_number (n : Int) (h : Str) (b : Bool) (f r : Addr) (k : Int) : (rfs n h b f r k).lookup ("number" : Str) = some (V.int n) := by kernel_rfl
theorem rfs_house (n : Int) (h : Str) (b : Bool) (f r : Addr) (k : Int) : (rfs n h b f r k).lookup ("house" : Str) = some (V.str h) := by kernel_rfl
theorem rfs_side (n : Int) (h : Str) (b : Bool) (f r : Addr) (k : Int) : (rfs n h b f r k).lookup ("side" : Str) = some (V.str (sd b)) := by kernel_rfl
theorem rfs_fills (n : Int) (h : Str) (b : Bool) (f r : Addr) (k : Int) : (rfs n h b f r k).lookup ("fills" : Str) = some (V.ref f) := by kernel_rfl
theorem rfs_removed (n : Int) (h : Str) (b : Bool) (f r : Addr) (k : Int) : (rfs n h b f r k).lookup ("removed" : Str) = some (V.ref r) := by kernel_rfl
theorem rfs_resting (n : Int) (h : Str) (b : Bool) (f r : Addr) (k : Int) : (rfs n h b f r k).lookup ("resting" : Str) = some (V.int k) := by kernel_rfl
def bfs (rd st : Addr) (n : Int) (l : Option Int) : List (Str × V) := [("_resting", .ref rd), ("_stops", .ref st), ("_next_number", .int n), ("last", pV l)]
theorem bfs_resting (rd st : Addr) (n : Int) (l : Option Int) : (bfs rd st n l).lookup ("_resting" : Str) = some (V.ref rd) := by kernel_rfl
theorem bfs_stops (rd st : Addr) (n : Int) (l : Option Int) : (bfs rd st n l).lookup ("_stops" : Str) = some (V.ref st) := by kernel_rfl
theorem bfs_next_number (rd st : Addr) (n : Int) (l : Option Int) : (bfs rd st n l).lookup ("_next_number" : Str) = some (V.int n) := by kernel_rfl
theorem bfs_last (rd st : Addr) (n : Int) (l : Option Int) : (bfs rd st n l).lookup ("last" : Str) = some (pV l) := by kernel_rfl
theorem bfs_no_orders (rd st : Addr) (n : Int) (l : Option Int) : (bfs rd st n l).lookup ("orders" : Str) = none := by kernel_rfl
theorem bfs_no_stops (rd st : Addr) (n : Int) (l : Option Int) : (bfs rd st n l).lookup ("stops" : Str) = none := by kernel_rfl
theorem bfs_no_submit (rd st : Addr) (n : Int) (l : Option Int) : (bfs rd st n l).lookup ("submit" : Str) = none := by kernel_rfl
theorem bfs_no_submit_stop (rd st : Addr) (n : Int) (l : Option Int) : (bfs rd st n l).lookup ("submit_stop" : Str) = none := by kernel_rfl
theorem bfs_no_cancel (rd st : Addr) (n : Int) (l : Option Int) : (bfs rd st n l).lookup ("cancel" : Str) = none := by kernel_rfl
theorem bfs_no_amend (rd st : Addr) (n : Int) (l : Option Int) : (bfs rd st n l).lookup ("amend" : Str) = none := by kernel_rfl
theorem bfs_no_new_number (rd st : Addr) (n : Int) (l : Option Int) : (bfs rd st n l).lookup ("_new_number" : Str) = none := by kernel_rfl
theorem bfs_no_owned (rd st : Addr) (n : Int) (l : Option Int) : (bfs rd st n l).lookup ("_owned" : Str) = none := by kernel_rfl
theorem bfs_no_remove (rd st : Addr) (n : Int) (l : Option Int) : (bfs rd st n l).lookup ("_remove" : Str) = none := by kernel_rfl
theorem bfs_no_insert (rd st : Addr) (n : Int) (l : Option Int) : (bfs rd st n l).lookup ("_insert" : Str) = none := by kernel_rfl
theorem bfs_no_enter (rd st : Addr) (n : Int) (l : Option Int) : (bfs rd st n l).lookup ("_enter" : Str) = none := by kernel_rfl
theorem bfs_no_match (rd st : Addr) (n : Int) (l : Option Int) : (bfs rd st n l).lookup ("_match" : Str) = none := by kernel_rfl
theorem bfs_no_settle_first (rd st : Addr) (n : Int) (l : Option Int) : (bfs rd st n l).lookup ("_settle_first" : Str) = none := by kernel_rfl
theorem bfs_no_trigger (rd st : Addr) (n : Int) (l : Option Int) : (bfs rd st n l).lookup ("_trigger" : Str) = none := by kernel_rfl
theorem bfs_no_first_reached (rd st : Addr) (n : Int) (l : Option Int) : (bfs rd st n l).lookup ("_first_reached" : Str) = none := by kernel_rfl
theorem ofs_put_left (o : Od) (v : Int) : putF "left" (.int v) (ofs o) = ofs { o with left := v } := by kernel_rfl
theorem ofs_put_visible (o : Od) (v : Int) : putF "visible" (.int v) (ofs o) = ofs { o with vis := v } := by kernel_rfl
theorem bfs_put_stops (rd st st2 : Addr) (n : Int) (l : Option Int) : putF "_stops" (.ref st2) (bfs rd st n l) = bfs rd st2 n l := by kernel_rfl
theorem bfs_put_next (rd st : Addr) (n n2 : Int) (l : Option Int) : putF "_next_number" (.int n2) (bfs rd st n l) = bfs rd st n2 l := by kernel_rfl
theorem bfs_put_last (rd st : Addr) (n : Int) (l : Option Int) (l2 : Int) : putF "last" (.int l2) (bfs rd st n l) = bfs rd st n (some l2) := by kernel_rfl
theorem ofs_made (n : Int) (h : Str) (b : Bool) (pr : Option Int) (q sh : Int) : putF "visible" (.int q) (putF "shown" (.int sh) (putF "left" (.int q) (putF "price" (pV pr) (putF "side" (.str (sd b)) (putF "house" (.str h) (putF "number" (.int n) [])))))) = ofs ⟨n, h, b, pr, q, sh, q⟩ := by kernel_rfl
theorem sfs_made (n : Int) (h : Str) (b : Bool) (tr : Int) (pr : Option Int) (q : Int) : putF "quantity" (.int q) (putF "price" (pV pr) (putF "trigger" (.int tr) (putF "side" (.str (sd b)) (putF "house" (.str h) (putF "number" (.int n) []))))) = sfs ⟨n, h, b, tr, pr, q⟩ := by kernel_rfl
theorem rfs_made (n : Int) (h : Str) (b : Bool) (f r : Addr) (k : Int) : putF "resting" (.int k) (putF "removed" (.ref r) (putF "fills" (.ref f) (putF "side" (.str (sd b)) (putF "house" (.str h) (putF "number" (.int n) []))))) = rfs n h b f r k := by kernel_rfl
theorem bfs_made (rd st : Addr) (n : Int) : putF "last" .non (putF "_next_number" (.int n) (putF "_stops" (.ref st) (putF "_resting" (.ref rd) []))) = bfs rd st n none := by kernel_rfl
end K29
end

section
set_option Elab.async false
set_option maxRecDepth 100000
set_option maxHeartbeats 1000000
set_option linter.unusedVariables false
/-! how the book stands in the heap -/
namespace K29
open PySem L2

structure TO where
  a : Addr
  dx : Addr
  d : Od
structure TS where
  a : Addr
  dx : Addr
  d : Sd
def TO.ref (t : TO) : V := .ref t.a
def TS.ref (t : TS) : V := .ref t.a
def OAt (A : Ad) (H : Hp) (t : TO) : Prop := H t.a = some (.ins A.CO t.dx (ofs t.d))
def SAt (A : Ad) (H : Hp) (t : TS) : Prop := H t.a = some (.ins A.CS t.dx (sfs t.d))
structure TB where
  p : Addr
  dx : Addr
  rd : Addr
  st : Addr
  l : Bool → Addr
  os : Bool → List TO
  ss : List TS
  next : Int
  last : Option Int
def TB.bk (B : TB) : Bk := ⟨fun s => (B.os s).map (·.d), B.ss.map (·.d), B.last⟩
def TB.setL (B : TB) (s : Bool) (L : List TO) : TB := { B with os := fun x => if x = s then L else B.os x }
def TB.foot (B : TB) (a : Addr) : Prop := a = B.p ∨ a = B.rd ∨ a = B.st ∨ (∃ s, a = B.l s) ∨ (∃ s, ∃ t ∈ B.os s, a = t.a) ∨ ∃ t ∈ B.ss, a = t.a
theorem TB.foot_p (B : TB) : B.foot B.p := .inl rfl
theorem TB.foot_rd (B : TB) : B.foot B.rd := .inr (.inl rfl)
theorem TB.foot_st (B : TB) : B.foot B.st := .inr (.inr (.inl rfl))
theorem TB.foot_l (B : TB) (s : Bool) : B.foot (B.l s) := .inr (.inr (.inr (.inl ⟨s, rfl⟩)))
theorem TB.foot_o {B : TB} {s : Bool} {t : TO} (h : t ∈ B.os s) : B.foot t.a := .inr (.inr (.inr (.inr (.inl ⟨s, t, h, rfl⟩))))
theorem TB.foot_s {B : TB} {t : TS} (h : t ∈ B.ss) : B.foot t.a := .inr (.inr (.inr (.inr (.inr ⟨t, h, rfl⟩))))
structure BCells (A : Ad) (H : Hp) (B : TB) : Prop where
  ob : H B.p = some (.ins A.CB B.dx (bfs B.rd B.st B.next B.last))
  rd : H B.rd = some (.dK [(.inr "buy", .ref (B.l true)), (.inr "sell", .ref (B.l false))])
  l : ∀ s, H (B.l s) = some (.lst ((B.os s).map TO.ref))
  st : H B.st = some (.lst (B.ss.map TS.ref))
  o : ∀ s, ∀ t ∈ B.os s, OAt A H t
  s : ∀ t ∈ B.ss, SAt A H t
  nd : ∀ s, ((B.os s).map (·.a)).Nodup
  dj : ∀ t ∈ B.os true, ∀ u ∈ B.os false, t.a ≠ u.a
  ll : B.l true ≠ B.l false
  ls : ∀ s, B.st ≠ B.l s
/-- F: what is not the book's, and stays -/
structure BookAt (A : Ad) (F H : Hp) (B : TB) : Prop where
  same : Same F H
  out : ∀ a, B.foot a → F a = none
  c : BCells A H B

theorem ofs_ne_bfs {o : Od} {rd st : Addr} {n : Int} {l : Option Int} : ofs o ≠ bfs rd st n l := fun h => by
  have := congrArg List.length h
  simp [ofs, bfs] at this
theorem ofs_ne_sfs {o : Od} {s : Sd} : ofs o ≠ sfs s := fun h => by
  have := congrArg List.length h
  simp [ofs, sfs] at this
theorem sfs_ne_bfs {o : Sd} {rd st : Addr} {n : Int} {l : Option Int} : sfs o ≠ bfs rd st n l := fun h => by
  have := congrArg List.length h
  simp [sfs, bfs] at this
theorem ins_ne {C dx C' dx' : Addr} {fs fs' : List (Str × V)} (h : fs ≠ fs') : HO.ins C dx fs ≠ HO.ins C' dx' fs' := fun e => by
  injection e with _ _ e3
  exact h e3
theorem ins_ne_lst {C dx : Addr} {fs : List (Str × V)} {xs : List V} : HO.ins C dx fs ≠ HO.lst xs := fun e => by cases e
theorem ins_ne_dK {C dx : Addr} {fs : List (Str × V)} {xs : List (Key × V)} : HO.ins C dx fs ≠ HO.dK xs := fun e => by cases e
theorem lst_ne_dK {ys : List V} {xs : List (Key × V)} : HO.lst ys ≠ HO.dK xs := fun e => by cases e

section
variable {A : Ad} {F F' H H' : Hp} {B : TB}
theorem BCells.has (c : BCells A H B) {a : Addr} (h : B.foot a) : ∃ o, H a = some o := by
  rcases h with rfl | rfl | rfl | ⟨s, rfl⟩ | ⟨s, t, ht, rfl⟩ | ⟨t, ht, rfl⟩
  · exact ⟨_, c.ob⟩
  · exact ⟨_, c.rd⟩
  · exact ⟨_, c.st⟩
  · exact ⟨_, c.l s⟩
  · exact ⟨_, c.o s t ht⟩
  · exact ⟨_, c.s t ht⟩
theorem BCells.frame (c : BCells A H B) (h : ∀ a, B.foot a → H' a = H a) : BCells A H' B :=
  ⟨(h _ B.foot_p).trans c.ob, (h _ B.foot_rd).trans c.rd, fun s => (h _ (B.foot_l s)).trans (c.l s), (h _ B.foot_st).trans c.st, fun s t ht => (h _ (TB.foot_o ht)).trans (c.o s t ht), fun t ht => (h _ (TB.foot_s ht)).trans (c.s t ht), c.nd, c.dj, c.ll, c.ls⟩
theorem BCells.up (c : BCells A H B) {a : Addr} {o : HO} (h : ¬ B.foot a) : BCells A (upd H a o) B := c.frame fun b hb => upd_ne fun e => h (e ▸ hb)
theorem BCells.free (c : BCells A H B) {a : Addr} (h : H a = none) : ¬ B.foot a := fun hb => by
  obtain ⟨o, e⟩ := c.has hb
  rw [h] at e
  cases e
theorem BCells.sameH (c : BCells A H B) (s : Same H H') : BCells A H' B := c.frame fun a ha => by
  obtain ⟨o, e⟩ := c.has ha
  rw [e, s a o e]
theorem Same.up {a : Addr} {o : HO} (s : Same F H) (h : F a = none) : Same F (upd H a o) := fun b u e => by
  rw [upd_ne (ne_of_none e h)]
  exact s b u e
theorem Same.newH {a : Addr} {o : HO} (h : H a = none) : Same H (upd H a o) := fun b u e => by
  rw [upd_ne (ne_of_none e h)]
  exact e
theorem BookAt.up (b : BookAt A F H B) {a : Addr} {o : HO} (h : ¬ B.foot a) (hF : F a = none) : BookAt A F (upd H a o) B := ⟨Same.up b.same hF, b.out, b.c.up h⟩
theorem BookAt.new (b : BookAt A F H B) {a : Addr} {o : HO} (h : H a = none) : BookAt A F (upd H a o) B := b.up (b.c.free h) (b.same.free h)
theorem BookAt.sameH (b : BookAt A F H B) (s : Same H H') : BookAt A F H' B := ⟨b.same.trans s, b.out, b.c.sameH s⟩
/-- more is frozen -/
theorem BookAt.frz (b : BookAt A F H B) {a : Addr} {o : HO} (h : H a = some o) (hf : ¬ B.foot a) : BookAt A (upd F a o) H B := by
  refine ⟨fun c u e => ?_, fun c hc => ?_, b.c⟩
  · by_cases q : c = a
    · rw [q, upd_same] at e
      rw [q, h]
      exact e
    · rw [upd_ne q] at e
      exact b.same c u e
  · have q : c ≠ a := fun q => hf (by rw [← q]; exact hc)
    rw [upd_ne q]
    exact b.out c hc
def del (F : Hp) (a : Addr) : Hp := fun b => if b = a then none else F b
theorem del_same {a : Addr} : del F a a = none := if_pos rfl
theorem del_ne {a b : Addr} (h : b ≠ a) : del F a b = F b := if_neg h
theorem del_some {a b : Addr} {o : HO} (h : del F a b = some o) : F b = some o ∧ b ≠ a := by
  by_cases q : b = a
  · rw [q, del_same] at h
    cases h
  · rw [del_ne q] at h
    exact ⟨h, q⟩
theorem BookAt.thaw (b : BookAt A F H B) (a : Addr) : BookAt A (del F a) H B := ⟨fun c u e => b.same c u (del_some e).1, fun c hc => by
  by_cases q : c = a
  · rw [q, del_same]
  · rw [del_ne q]
    exact b.out c hc, b.c⟩
theorem BookAt.foot_of (b : BookAt A F H B) {a : Addr} {o : HO} (h : F a = some o) : ¬ B.foot a := fun q => by
  rw [b.out a q] at h
  cases h
/-- the frame chosen anew -/
theorem BookAt.re (b : BookAt A F H B) (s : Same F' H) (o : ∀ a, B.foot a → F' a = none) : BookAt A F' H B := ⟨s, o, b.c⟩
/-- all that is not the book's -/
noncomputable def hide (P : Addr → Prop) (H : Hp) : Hp := fun a => open Classical in if P a then none else H a
theorem hide_in {P : Addr → Prop} {a : Addr} (h : P a) : hide P H a = none := if_pos h
theorem hide_out {P : Addr → Prop} {a : Addr} (h : ¬ P a) : hide P H a = H a := if_neg h
theorem hide_same {P : Addr → Prop} : Same (hide P H) H := fun a o e => by
  by_cases q : P a
  · rw [hide_in q] at e
    cases e
  · rw [hide_out q] at e
    exact e
theorem BCells.at_ (c : BCells A H B) : BookAt A (hide B.foot H) H B := ⟨hide_same, fun _ h => hide_in h, c⟩

/-! ### what is apart -/
theorem BCells.p_l (c : BCells A H B) (s : Bool) : B.p ≠ B.l s := ne_of c.ob (c.l s) ins_ne_lst
theorem BCells.p_st (c : BCells A H B) : B.p ≠ B.st := ne_of c.ob c.st ins_ne_lst
theorem BCells.p_rd (c : BCells A H B) : B.p ≠ B.rd := ne_of c.ob c.rd ins_ne_dK
theorem BCells.l_rd (c : BCells A H B) (s : Bool) : B.l s ≠ B.rd := ne_of (c.l s) c.rd lst_ne_dK
theorem BCells.st_rd (c : BCells A H B) : B.st ≠ B.rd := ne_of c.st c.rd lst_ne_dK
theorem BCells.l_l (c : BCells A H B) {s r : Bool} (h : s ≠ r) : B.l s ≠ B.l r := by
  cases s <;> cases r
  · exact absurd rfl h
  · exact c.ll.symm
  · exact c.ll
  · exact absurd rfl h
theorem OAt.l {t : TO} {a : Addr} {xs : List V} (h : OAt A H t) (hl : H a = some (.lst xs)) : t.a ≠ a := ne_of h hl ins_ne_lst
theorem OAt.p {t : TO} (c : BCells A H B) (h : OAt A H t) : t.a ≠ B.p := ne_of h c.ob (ins_ne ofs_ne_bfs)
theorem OAt.rd {t : TO} (c : BCells A H B) (h : OAt A H t) : t.a ≠ B.rd := ne_of h c.rd ins_ne_dK
theorem OAt.s {t : TO} {u : TS} (h : OAt A H t) (h' : SAt A H u) : t.a ≠ u.a := ne_of h h' (ins_ne ofs_ne_sfs)
theorem OAt.foot {t : TO} (c : BCells A H B) (h : OAt A H t) (hn : ∀ s, ∀ u ∈ B.os s, u.a ≠ t.a) : ¬ B.foot t.a := by
  rintro (e | e | e | ⟨s, e⟩ | ⟨s, u, hu, e⟩ | ⟨u, hu, e⟩)
  · exact OAt.p c h e
  · exact OAt.rd c h e
  · exact OAt.l h c.st e
  · exact OAt.l h (c.l s) e
  · exact hn s u hu e.symm
  · exact OAt.s h (c.s u hu) e
theorem TB.not_in {t : TO} (h : ¬ B.foot t.a) : ∀ s, ∀ u ∈ B.os s, u.a ≠ t.a := fun s u hu e => h (e ▸ TB.foot_o hu)
theorem setL_same {s : Bool} {L : List TO} : (B.setL s L).os s = L := if_pos rfl
theorem setL_ne {s r : Bool} {L : List TO} (h : r ≠ s) : (B.setL s L).os r = B.os r := if_neg h
theorem bool_ne {s r : Bool} (h : r ≠ s) : r = !s := by cases s <;> cases r <;> simp_all
theorem not_ne (s : Bool) : (!s) ≠ s := by cases s <;> decide

/-- the side s becomes L: its list is written -/
theorem BookAt.setL (b : BookAt A F H B) {s : Bool} {L : List TO} (ho : ∀ t ∈ L, OAt A H t) (nd : (L.map (·.a)).Nodup) (dj : ∀ t ∈ L, ∀ u ∈ B.os (!s), t.a ≠ u.a) (hF : ∀ t ∈ L, F t.a = none) : BookAt A F (upd H (B.l s) (.lst (L.map TO.ref))) (B.setL s L) := by
  have c := b.c
  refine ⟨Same.up b.same (b.out _ (B.foot_l s)), ?_, ?_⟩
  · rintro a (e | e | e | e | ⟨r, t, ht, e⟩ | e)
    · exact b.out a (.inl e)
    · exact b.out a (.inr (.inl e))
    · exact b.out a (.inr (.inr (.inl e)))
    · exact b.out a (.inr (.inr (.inr (.inl e))))
    · by_cases hr : r = s
      · rw [hr, setL_same] at ht
        rw [e]
        exact hF t ht
      · rw [setL_ne hr] at ht
        rw [e]
        exact b.out _ (TB.foot_o ht)
    · exact b.out a (.inr (.inr (.inr (.inr (.inr e)))))
  · refine ⟨(upd_ne (c.p_l s)).trans c.ob, (upd_ne (c.l_rd s).symm).trans c.rd, fun r => ?_, (upd_ne (c.ls s)).trans c.st, fun r t ht => ?_, fun t ht => (upd_ne (ne_of (c.s t ht) (c.l s) ins_ne_lst)).trans (c.s t ht), fun r => ?_, fun t ht u hu => ?_, c.ll, c.ls⟩
    · by_cases hr : r = s
      · rw [hr, setL_same]
        exact upd_same
      · rw [setL_ne hr]
        exact (upd_ne (c.l_l hr)).trans (c.l r)
    · by_cases hr : r = s
      · rw [hr, setL_same] at ht
        exact (upd_ne (OAt.l (ho t ht) (c.l s))).trans (ho t ht)
      · rw [setL_ne hr] at ht
        exact (upd_ne (OAt.l (c.o r t ht) (c.l s))).trans (c.o r t ht)
    · by_cases hr : r = s
      · rw [hr, setL_same]
        exact nd
      · rw [setL_ne hr]
        exact c.nd r
    · cases s with
      | true =>
        rw [setL_same] at ht
        rw [setL_ne (by decide)] at hu
        exact dj t ht u hu
      | false =>
        rw [setL_same] at hu
        rw [setL_ne (by decide)] at ht
        exact (dj u hu t ht).symm
theorem BCells.other (c : BCells A H B) {s : Bool} {t u : TO} (ht : t ∈ B.os s) (hu : u ∈ B.os (!s)) : t.a ≠ u.a := by
  cases s with
  | true => exact c.dj t ht u hu
  | false => exact (c.dj u hu t ht).symm
/-- a part of the side stays -/
theorem BookAt.sub (b : BookAt A F H B) {s : Bool} {L : List TO} (h : L.Sublist (B.os s)) : BookAt A F (upd H (B.l s) (.lst (L.map TO.ref))) (B.setL s L) :=
  b.setL (fun t ht => b.c.o s t (h.subset ht)) ((b.c.nd s).sublist (h.map _)) (fun t ht u hu => b.c.other (h.subset ht) hu) (fun t ht => b.out _ (TB.foot_o (h.subset ht)))
/-- a new one comes in -/
theorem BookAt.insO (b : BookAt A F H B) {s : Bool} {t : TO} {L : List TO} (hp : L.Perm (t :: B.os s)) (ho : OAt A H t) (hf : ¬ B.foot t.a) (hF : F t.a = none) : BookAt A F (upd H (B.l s) (.lst (L.map TO.ref))) (B.setL s L) := by
  have mem : ∀ x ∈ L, x = t ∨ x ∈ B.os s := fun x hx => List.mem_cons.mp (hp.mem_iff.mp hx)
  refine b.setL (fun x hx => ?_) ?_ (fun x hx u hu => ?_) (fun x hx => ?_)
  · rcases mem x hx with rfl | hx
    · exact ho
    · exact b.c.o s x hx
  · rw [(hp.map (·.a)).nodup_iff, List.map_cons, List.nodup_cons]
    refine ⟨fun h => ?_, b.c.nd s⟩
    obtain ⟨u, hu, e⟩ := List.mem_map.mp h
    exact TB.not_in hf s u hu e
  · rcases mem x hx with rfl | hx
    · exact (TB.not_in hf _ u hu).symm
    · exact b.c.other hx hu
  · rcases mem x hx with rfl | hx
    · exact hF
    · exact b.out _ (TB.foot_o hx)
/-- an order of the book is changed -/
theorem BookAt.setO (b : BookAt A F H B) {s : Bool} {L1 L2 : List TO} {t : TO} (e : B.os s = L1 ++ t :: L2) (d : Od) : BookAt A F (upd H t.a (.ins A.CO t.dx (ofs d))) (B.setL s (L1 ++ { t with d := d } :: L2)) := by
  have c := b.c
  have ht : t ∈ B.os s := by rw [e]; exact List.mem_append_right _ List.mem_cons_self
  have hot := c.o s t ht
  have ea : (L1 ++ { t with d := d } :: L2).map (·.a) = (B.os s).map (·.a) := by rw [e, List.map_append, List.map_append]; rfl
  have er : (L1 ++ { t with d := d } :: L2).map TO.ref = (B.os s).map TO.ref := by rw [e, List.map_append, List.map_append]; rfl
  have old : ∀ x ∈ L1 ++ { t with d := d } :: L2, x = { t with d := d } ∨ (x ∈ B.os s ∧ x.a ≠ t.a) := fun x hx => by
    have nd := c.nd s
    rw [e, List.map_append, List.map_cons, List.nodup_append, List.nodup_cons] at nd
    rcases List.mem_append.mp hx with hx | hx
    · exact .inr ⟨by rw [e]; exact List.mem_append_left _ hx, fun q => nd.2.2 _ (List.mem_map.mpr ⟨x, hx, rfl⟩) _ List.mem_cons_self q⟩
    · rcases List.mem_cons.mp hx with hx | hx
      · exact .inl hx
      · exact .inr ⟨by rw [e]; exact List.mem_append_right _ (List.mem_cons_of_mem _ hx), fun q => nd.2.1.1 (List.mem_map.mpr ⟨x, hx, q⟩)⟩
  have hne : ∀ {a : Addr}, a ≠ t.a → upd H t.a (.ins A.CO t.dx (ofs d)) a = H a := fun h => upd_ne h
  refine ⟨Same.up b.same (b.out _ (TB.foot_o ht)), ?_, ?_⟩
  · rintro a (q | q | q | q | ⟨r, x, hx, q⟩ | q)
    · exact b.out a (.inl q)
    · exact b.out a (.inr (.inl q))
    · exact b.out a (.inr (.inr (.inl q)))
    · exact b.out a (.inr (.inr (.inr (.inl q))))
    · by_cases hr : r = s
      · rw [hr, setL_same] at hx
        have : x.a ∈ (B.os s).map (·.a) := by rw [← ea]; exact List.mem_map.mpr ⟨x, hx, rfl⟩
        obtain ⟨y, hy, ey⟩ := List.mem_map.mp this
        rw [q, ← ey]
        exact b.out _ (TB.foot_o hy)
      · rw [setL_ne hr] at hx
        rw [q]
        exact b.out _ (TB.foot_o hx)
    · exact b.out a (.inr (.inr (.inr (.inr (.inr q)))))
  · refine ⟨(hne (OAt.p c hot).symm).trans c.ob, (hne (OAt.rd c hot).symm).trans c.rd, fun r => ?_, (hne (OAt.l hot c.st).symm).trans c.st, fun r x hx => ?_, fun x hx => (hne (OAt.s hot (c.s x hx)).symm).trans (c.s x hx), fun r => ?_, fun x hx u hu => ?_, c.ll, c.ls⟩
    · refine (hne (OAt.l hot (c.l r)).symm).trans ?_
      by_cases hr : r = s
      · rw [hr, setL_same, er]
        exact c.l s
      · rw [setL_ne hr]
        exact c.l r
    · by_cases hr : r = s
      · rw [hr, setL_same] at hx
        rcases old x hx with e2 | ⟨h1, h2⟩
        · rw [e2]
          exact upd_same
        · exact (hne h2).trans (c.o s x h1)
      · rw [setL_ne hr] at hx
        have : r = !s := bool_ne hr
        subst this
        exact (hne (c.other ht hx).symm).trans (c.o _ x hx)
    · by_cases hr : r = s
      · rw [hr, setL_same, ea]
        exact c.nd s
      · rw [setL_ne hr]
        exact c.nd r
    · have back : ∀ x ∈ L1 ++ { t with d := d } :: L2, ∃ y ∈ B.os s, y.a = x.a := fun x hx => by
        have : x.a ∈ (B.os s).map (·.a) := by rw [← ea]; exact List.mem_map.mpr ⟨x, hx, rfl⟩
        exact List.mem_map.mp this
      cases s with
      | true =>
        rw [setL_same] at hx
        rw [setL_ne (by decide)] at hu
        obtain ⟨y, hy, ey⟩ := back x hx
        rw [← ey]
        exact c.dj y hy u hu
      | false =>
        rw [setL_same] at hu
        rw [setL_ne (by decide)] at hx
        obtain ⟨y, hy, ey⟩ := back u hu
        rw [← ey]
        exact c.dj x hx y hy
/-- the book's own attributes -/
theorem BookAt.setB (b : BookAt A F H B) {next : Int} {last : Option Int} : BookAt A F (upd H B.p (.ins A.CB B.dx (bfs B.rd B.st next last))) { B with next := next, last := last } := by
  have c := b.c
  refine ⟨Same.up b.same (b.out _ B.foot_p), b.out, ⟨upd_same, (upd_ne c.p_rd.symm).trans c.rd, fun s => (upd_ne (c.p_l s).symm).trans (c.l s), (upd_ne c.p_st.symm).trans c.st, fun s t ht => (upd_ne (OAt.p c (c.o s t ht))).trans (c.o s t ht), fun t ht => (upd_ne (ne_of (c.s t ht) c.ob (ins_ne sfs_ne_bfs))).trans (c.s t ht), c.nd, c.dj, c.ll, c.ls⟩⟩
/-- the waiting stop orders in a new list -/
theorem BookAt.setS (b : BookAt A F H B) {st : Addr} {ss : List TS} (hst : H st = some (.lst (ss.map TS.ref))) (hf : ¬ B.foot st) (hF : F st = none) (hs : ∀ t ∈ ss, t ∈ B.ss) : BookAt A F (upd H B.p (.ins A.CB B.dx (bfs B.rd st B.next B.last))) { B with st := st, ss := ss } := by
  have c := b.c
  refine ⟨Same.up b.same (b.out _ B.foot_p), ?_, ⟨upd_same, (upd_ne c.p_rd.symm).trans c.rd, fun s => (upd_ne (c.p_l s).symm).trans (c.l s), (upd_ne (show st ≠ B.p from fun e => hf (by rw [e]; exact B.foot_p))).trans hst, fun s t ht => (upd_ne (OAt.p c (c.o s t ht))).trans (c.o s t ht), fun t ht => (upd_ne (ne_of (c.s t (hs t ht)) c.ob (ins_ne sfs_ne_bfs))).trans (c.s t (hs t ht)), c.nd, c.dj, c.ll, fun s (e : st = B.l s) => hf (by rw [e]; exact B.foot_l s)⟩⟩
  rintro a (e | e | e | e | e | ⟨t, ht, e⟩)
  · exact b.out a (.inl e)
  · exact b.out a (.inr (.inl e))
  · rw [e]
    exact hF
  · exact b.out a (.inr (.inr (.inr (.inl e))))
  · exact b.out a (.inr (.inr (.inr (.inr (.inl e)))))
  · exact b.out a (.inr (.inr (.inr (.inr (.inr ⟨t, hs t ht, e⟩)))))
/-- a stop order is appended -/
theorem BookAt.addS (b : BookAt A F H B) {t : TS} (ht : SAt A H t) (hF : F t.a = none) : BookAt A F (upd H B.st (.lst ((B.ss ++ [t]).map TS.ref))) { B with ss := B.ss ++ [t] } := by
  have c := b.c
  have mem : ∀ x ∈ B.ss ++ [t], SAt A H x ∧ F x.a = none := fun x hx => by
    rcases List.mem_append.mp hx with hx | hx
    · exact ⟨c.s x hx, b.out _ (TB.foot_s hx)⟩
    · rw [List.mem_singleton.mp hx]
      exact ⟨ht, hF⟩
  refine ⟨Same.up b.same (b.out _ B.foot_st), ?_, ⟨(upd_ne c.p_st).trans c.ob, (upd_ne c.st_rd.symm).trans c.rd, fun s => (upd_ne (c.ls s).symm).trans (c.l s), upd_same, fun s t ht => (upd_ne (OAt.l (c.o s t ht) c.st)).trans (c.o s t ht), fun x hx => (upd_ne (ne_of (mem x hx).1 c.st ins_ne_lst)).trans (mem x hx).1, c.nd, c.dj, c.ll, c.ls⟩⟩
  rintro a (e | e | e | e | e | ⟨x, hx, e⟩)
  · exact b.out a (.inl e)
  · exact b.out a (.inr (.inl e))
  · exact b.out a (.inr (.inr (.inl e)))
  · exact b.out a (.inr (.inr (.inr (.inl e))))
  · exact b.out a (.inr (.inr (.inr (.inr (.inl e)))))
  · rw [e]
    exact (mem x hx).2
end
end K29
end

section
set_option Elab.async false
set_option maxRecDepth 100000
set_option maxHeartbeats 4000000
set_option linter.unusedVariables false
/-! the small defs -/
namespace K29
open PySem L2
section
variable {P : Program} {w : World} {K : PySem.W.Frag} {mg : Str → Option Value} {base : Heap} {A : Ad}
def spInt (n : Int) : Sp := fun vs H Q _ => ∃ i : Int, vs = [.int i] ∧ (1 ≤ i ∧ i ≤ n) ∧ Q (.bl true) H
def spIsInt : Sp := fun vs H Q _ => ∃ i : Int, vs = [.int i] ∧ Q (.bl true) H
theorem ok_is_integer (T : Txt K mg A) : FnOk P w K mg base CX0 1 A.f_is_integer A.d_is_integer ["value"] spIsInt := by
  refine T.F_is_integer.ok sc_is_integer (fun vs H Q E h => ?_) (fun cdv Ar outer s H vs Q E hr h => ?_)
  · obtain ⟨i, rfl, _⟩ := h
    rfl
  · obtain ⟨i, rfl, k⟩ := h
    refine ⟨_, pss_one (ps_ret (pe_and (pe_callB call_isi (by rfl) T.z_isinstance PyProof.Rows.boot_isinstance (pa_cons (pv 0) (pa_cons (pe_bltn (v := .ty "int") (by rfl) T.z_int PyProof.Rows.boot_int rfl) pa_nil)))
      (pe_one (pe_not (pe_callB call_isi (by rfl) T.z_isinstance PyProof.Rows.boot_isinstance (pa_cons (pv 0) (pa_cons (pe_bltn (v := .ty "bool") (by rfl) T.z_bool PyProof.Rows.boot_bool rfl) pa_nil))))))), ?_⟩
    refine ⟨_, rfl, _, _, _, _, true, rfl, .ty _, .base (.int i), kit_ty (by decide +kernel), _, rfl, iteT ?_⟩
    exact ⟨_, rfl, _, _, _, _, false, rfl, .ty _, .base (.int i), kit_ty (by decide +kernel), _, rfl, k⟩
def spRange : Sp := fun vs H Q _ => ∃ i : Int, vs = [.int i] ∧ (1 ≤ i ∧ i ≤ 1000000) ∧ Q (.bl true) H
theorem ok_in_range (T : Txt K mg A) : FnOk P w K mg base CX0 2 A.f_in_range A.d_in_range ["value"] spRange := by
  refine T.F_in_range.ok sc_in_range (fun vs H Q E h => ?_) (fun cdv Ar outer s H vs Q E hr h => ?_)
  · obtain ⟨i, rfl, _⟩ := h
    rfl
  · obtain ⟨i, rfl, hi, k⟩ := h
    obtain ⟨tg, hg⟩ := T.greatest
    refine ⟨_, pss_one (ps_ret (pe_and (pe_call (ok_is_integer T) hr (by rfl) T.g_is_integer T.F_is_integer.kp T.b_is_integer .nil pass0 (pa_cons (pv 0) pa_nil))
      (pe_one (pe_chain op_le op_le pe_int (pv 0) (pe_glob (v := .int 1000000) (by rfl) hg ⟨_, rfl⟩))))), ?_⟩
    refine ⟨_, rfl, i, rfl, true, rfl, iteT ?_⟩
    refine ⟨_, rfl, _, _, rfl, rfl, _, rfl, ?_⟩
    refine ite2 (fun _ => ?_) (fun q => absurd (decide_eq_true hi.1) q)
    refine ⟨_, _, rfl, rfl, ?_⟩
    show Q (.bl (decide (i ≤ 1000000))) H
    rw [decide_eq_true hi.2]
    exact k
def spOther : Sp := fun vs H Q _ => ∃ b : Bool, vs = [.str (sd b)] ∧ Q (.str (sd !b)) H
theorem ok_other_side (T : Txt K mg A) : FnOk P w K mg base CX0 1 A.f_other_side A.d_other_side ["side"] spOther := by
  refine T.F_other_side.ok sc_other_side (fun vs H Q E h => ?_) (fun cdv Ar outer s H vs Q E hr h => ?_)
  · obtain ⟨i, rfl, _⟩ := h
    rfl
  · obtain ⟨b, rfl, k⟩ := h
    refine ⟨_, pss_cons (ps_if (pt_cmpR op_eq (pv 0) pe_str (nomark _)) (pss_one (ps_ret pe_str)) pss_nil) (pss_one (ps_ret pe_str)), ?_⟩
    refine ⟨_, rfl, rfl, _, rfl, ?_⟩
    rw [sd_buy]
    cases b
    · exact iteF k
    · exact iteT k
def spBetter : Sp := fun vs H Q _ => ∃ (b : Bool) (p q : Int), vs = [.str (sd b), .int p, .int q] ∧ Q (.bl (better b p q)) H
theorem ok_is_better (T : Txt K mg A) : FnOk P w K mg base CX0 1 A.f_is_better A.d_is_better ["side", "price", "other"] spBetter := by
  refine T.F_is_better.ok sc_is_better (fun vs H Q E h => ?_) (fun cdv Ar outer s H vs Q E hr h => ?_)
  · obtain ⟨_, _, _, rfl, _⟩ := h
    rfl
  · obtain ⟨b, p, q, rfl, k⟩ := h
    refine ⟨_, pss_cons (ps_if (pt_cmpR op_eq (pv 0) pe_str (nomark _)) (pss_one (ps_ret (pe_cmpR op_gt (pv 1) (pv 2) (nomark _)))) pss_nil) (pss_one (ps_ret (pe_cmpR op_lt (pv 1) (pv 2) (nomark _)))), ?_⟩
    refine ⟨_, rfl, rfl, _, rfl, ?_⟩
    rw [sd_buy]
    cases b
    · exact iteF ⟨_, rfl, _, rfl, _, _, rfl, rfl, k⟩
    · exact iteT ⟨_, rfl, _, rfl, _, _, rfl, rfl, k⟩
def spAcc : Sp := fun vs H Q _ => ∃ (b : Bool) (l : Option Int) (p : Int), vs = [.str (sd b), pV l, .int p] ∧ Q (.bl (acc b l p)) H
theorem ok_accepts (T : Txt K mg A) : FnOk P w K mg base CX0 1 A.f_accepts A.d_accepts ["side", "limit", "price"] spAcc := by
  refine T.F_accepts.ok sc_accepts (fun vs H Q E h => ?_) (fun cdv Ar outer s H vs Q E hr h => ?_)
  · obtain ⟨_, _, _, rfl, _⟩ := h
    rfl
  · obtain ⟨b, l, p, rfl, k⟩ := h
    refine ⟨_, pss_cons (ps_if (pt_cmpR op_isN (pv 1) pe_non (nomark _)) (pss_one (ps_ret pe_bl)) pss_nil) (pss_cons (ps_if (pt_cmpR op_eq (pv 0) pe_str (nomark _)) (pss_one (ps_ret (pe_cmpR op_le (pv 2) (pv 1) (nomark _)))) pss_nil) (pss_one (ps_ret (pe_cmpR op_ge (pv 2) (pv 1) (nomark _))))), ?_⟩
    refine ⟨_, rfl, rfl, _, rfl, ?_⟩
    rw [pV_non]
    cases l with
    | none => exact iteT k
    | some l =>
      refine iteF ?_
      refine ⟨_, rfl, rfl, _, rfl, ?_⟩
      rw [sd_buy]
      cases b
      · exact iteF ⟨_, rfl, _, rfl, _, _, rfl, rfl, k⟩
      · exact iteT ⟨_, rfl, _, rfl, _, _, rfl, rfl, k⟩
end
end K29
end

section
set_option Elab.async false
set_option maxRecDepth 100000
set_option maxHeartbeats 4000000
set_option linter.unusedVariables false
/-! Order's methods -/
namespace K29
open PySem L2
section
variable {P : Program} {w : World} {K : PySem.W.Frag} {mg : Str → Option Value} {base : Heap} {A : Ad}
def spShow (A : Ad) : Sp := fun vs H Q _ => ∃ t : TO, vs = [.ref t.a] ∧ OAt A H t ∧ Q .non (upd H t.a (.ins A.CO t.dx (ofs t.d.show)))
theorem ok_show (T : Txt K mg A) : FnOk P w K mg base CX0 1 A.f_Oshow_next_part A.d_Oshow_next_part ["self"] (spShow A) := by
  refine T.F_Oshow_next_part.ok sc_Oshow_next_part (fun vs H Q E h => ?_) (fun cdv Ar outer s H vs Q E hr h => ?_)
  · obtain ⟨t, rfl, _⟩ := h
    rfl
  · obtain ⟨t, rfl, h, k⟩ := h
    have hm0 : mg "min" = none := T.z_min
    refine ⟨_, pss_cons (ps_fld (pv 0) (pe_fld (pv 0) rfl) rfl)
      (pss_one (ps_if (pt_cmpR op_gt (pe_fld (pv 0) rfl) pe_int (nomark _))
        (pss_one (ps_fld (pv 0) (pe_callB (call_min2 rfl) (by rfl) hm0 PyProof.Rows.boot_min (pa_cons (pe_fld (pv 0) rfl) (pa_cons (pe_fld (pv 0) rfl) pa_nil))) rfl)) pss_nil)), ?_⟩
    refine ⟨_, rfl, t.a, A.CO, t.dx, _, _, rfl, h, T.cO, T.nO_left, ofs_left _, _, rfl, t.a, A.CO, t.dx, _, rfl, h, T.cO, T.nO_visible, (by show 7 < 1000; decide), ?_⟩
    rw [ofs_put_visible]
    refine ⟨_, rfl, t.a, A.CO, t.dx, _, _, rfl, upd_same, T.cO, T.nO_shown, ofs_shown _, _, _, rfl, rfl, _, rfl, ?_⟩
    show if decide (0 < t.d.shown) = true then _ else _
    by_cases hs : 0 < t.d.shown
    · rw [decide_eq_true hs]
      refine iteT ?_
      refine ⟨_, rfl, t.a, A.CO, t.dx, _, _, rfl, upd_same, T.cO, T.nO_shown, ofs_shown _, _, rfl, t.a, A.CO, t.dx, _, _, rfl, upd_same, T.cO, T.nO_left, ofs_left _, _, _, rfl, _, rfl, t.a, A.CO, t.dx, _, rfl, upd_same, T.cO, T.nO_visible, (by show 7 < 1000; decide), ?_⟩
      rw [ofs_put_visible, upd_upd]
      have e : t.d.show = { t.d with vis := if t.d.left < t.d.shown then t.d.left else t.d.shown } := by
        unfold Od.show part minI
        rw [if_pos hs]
      rw [e] at k
      exact k
    · rw [decide_eq_false hs]
      refine iteF ?_
      have e : t.d.show = { t.d with vis := t.d.left } := by
        unfold Od.show part
        rw [if_neg hs]
      rw [e] at k
      exact k
def spTake (A : Ad) : Sp := fun vs H Q _ => ∃ (t : TO) (q : Int), vs = [.ref t.a, .int q] ∧ OAt A H t ∧ Q .non (upd H t.a (.ins A.CO t.dx (ofs (hit t.d q))))
theorem ok_take (T : Txt K mg A) : FnOk P w K mg base CX0 1 A.f_Otake A.d_Otake ["self", "quantity"] (spTake A) := by
  refine T.F_Otake.ok sc_Otake (fun vs H Q E h => ?_) (fun cdv Ar outer s H vs Q E hr h => ?_)
  · obtain ⟨t, q, rfl, _⟩ := h
    rfl
  · obtain ⟨t, q, rfl, h, k⟩ := h
    refine ⟨_, pss_cons (ps_fld (pv 0) (pe_op op_sub (pe_fld (pv 0) rfl) (pv 1)) rfl) (pss_one (ps_fld (pv 0) (pe_op op_sub (pe_fld (pv 0) rfl) (pv 1)) rfl)), ?_⟩
    refine ⟨_, rfl, t.a, A.CO, t.dx, _, _, rfl, h, T.cO, T.nO_left, ofs_left _, _, rfl, _, _, rfl, rfl, _, rfl, t.a, A.CO, t.dx, _, rfl, h, T.cO, T.nO_left, (by show 7 < 1000; decide), ?_⟩
    rw [ofs_put_left]
    refine ⟨_, rfl, t.a, A.CO, t.dx, _, _, rfl, upd_same, T.cO, T.nO_visible, ofs_visible _, _, rfl, _, _, rfl, rfl, _, rfl, t.a, A.CO, t.dx, _, rfl, upd_same, T.cO, T.nO_visible, (by show 7 < 1000; decide), ?_⟩
    rw [ofs_put_visible, upd_upd]
    exact k
def Od.cut (o : Od) (q : Int) : Od := { o with left := q, vis := minI o.vis q }
def spReduce (A : Ad) : Sp := fun vs H Q _ => ∃ (t : TO) (q : Int), vs = [.ref t.a, .int q] ∧ OAt A H t ∧ Q .non (upd H t.a (.ins A.CO t.dx (ofs (t.d.cut q))))
theorem ok_reduce (T : Txt K mg A) : FnOk P w K mg base CX0 1 A.f_Oreduce A.d_Oreduce ["self", "quantity"] (spReduce A) := by
  refine T.F_Oreduce.ok sc_Oreduce (fun vs H Q E h => ?_) (fun cdv Ar outer s H vs Q E hr h => ?_)
  · obtain ⟨t, q, rfl, _⟩ := h
    rfl
  · obtain ⟨t, q, rfl, h, k⟩ := h
    have hm0 : mg "min" = none := T.z_min
    refine ⟨_, pss_cons (ps_fld (pv 0) (pv 1) rfl) (pss_one (ps_fld (pv 0) (pe_callB (call_min2 rfl) (by rfl) hm0 PyProof.Rows.boot_min (pa_cons (pe_fld (pv 0) rfl) (pa_cons (pv 1) pa_nil))) rfl)), ?_⟩
    refine ⟨_, rfl, _, rfl, t.a, A.CO, t.dx, _, rfl, h, T.cO, T.nO_left, (by show 7 < 1000; decide), ?_⟩
    rw [ofs_put_left]
    refine ⟨_, rfl, t.a, A.CO, t.dx, _, _, rfl, upd_same, T.cO, T.nO_visible, ofs_visible _, _, rfl, _, _, rfl, _, rfl, t.a, A.CO, t.dx, _, rfl, upd_same, T.cO, T.nO_visible, (by show 7 < 1000; decide), ?_⟩
    rw [ofs_put_visible, upd_upd]
    exact k
def orow (o : Od) : List V := [.int o.num, .str o.house, pV o.price, .int o.left, .int o.vis]
def spOEntry (A : Ad) : Sp := fun vs H Q _ => ∃ t : TO, vs = [.ref t.a] ∧ OAt A H t ∧ ∀ p, H p = none → Q (.ref p) (upd H p (.tup (orow t.d)))
theorem ok_oentry (T : Txt K mg A) : FnOk P w K mg base CX0 1 A.f_Oentry A.d_Oentry ["self"] (spOEntry A) := by
  refine T.F_Oentry.ok sc_Oentry (fun vs H Q E h => ?_) (fun cdv Ar outer s H vs Q E hr h => ?_)
  · obtain ⟨t, rfl, _⟩ := h
    rfl
  · obtain ⟨t, rfl, h, k⟩ := h
    refine ⟨_, pss_one (ps_ret (pe_tup (pa_cons (pe_fld (pv 0) rfl) (pa_cons (pe_fld (pv 0) rfl) (pa_cons (pe_fld (pv 0) rfl) (pa_cons (pe_fld (pv 0) rfl) (pa_cons (pe_fld (pv 0) rfl) pa_nil))))))), ?_⟩
    refine ⟨_, rfl, t.a, A.CO, t.dx, _, _, rfl, h, T.cO, T.nO_number, ofs_number _, _, rfl, t.a, A.CO, t.dx, _, _, rfl, h, T.cO, T.nO_house, ofs_house _, _, rfl, t.a, A.CO, t.dx, _, _, rfl, h, T.cO, T.nO_price, ofs_price _, _, rfl, t.a, A.CO, t.dx, _, _, rfl, h, T.cO, T.nO_left, ofs_left _, _, rfl, t.a, A.CO, t.dx, _, _, rfl, h, T.cO, T.nO_visible, ofs_visible _, (by show 5 ≤ sizeLine; decide), fun p hp => ?_⟩
    exact k p hp
def spOInit (A : Ad) : Sp := fun vs H Q _ => ∃ (p dx : Addr) (n : Int) (h : Str) (b : Bool) (pr : Option Int) (q sh : Int), vs = [.ref p, .int n, .str h, .str (sd b), pV pr, .int q, .int sh] ∧ H p = some (.ins A.CO dx []) ∧ Q .non (upd H p (.ins A.CO dx (ofs (mkOd n h b pr q sh))))
theorem ok_oinit (T : Txt K mg A) : FnOk P w K mg base CX0 2 A.f_Oinit A.d_Oinit ["self", "number", "house", "side", "price", "quantity", "shown"] (spOInit A) := by
  refine T.F_Oinit.ok sc_Oinit (fun vs H Q E h => ?_) (fun cdv Ar outer s H vs Q E hr h => ?_)
  · obtain ⟨_, _, _, _, _, _, _, _, rfl, _⟩ := h
    rfl
  · obtain ⟨p, dx, n, h, b, pr, q, sh, rfl, hp, k⟩ := h
    refine ⟨_, pss_cons (ps_fld (pv 0) (pv 1) rfl) (pss_cons (ps_fld (pv 0) (pv 2) rfl) (pss_cons (ps_fld (pv 0) (pv 3) rfl) (pss_cons (ps_fld (pv 0) (pv 4) rfl) (pss_cons (ps_fld (pv 0) (pv 5) rfl) (pss_cons (ps_fld (pv 0) (pv 6) rfl) (pss_cons (ps_fld (pv 0) (pv 5) rfl)
      (pss_one (ps_expr (pe_meth0 (pv 0) T.cO T.h_Oshow_next_part (ok_show T) hr T.b_Oshow_next_part .nil pass0)))))))))  , ?_⟩
    refine ⟨_, rfl, _, rfl, p, A.CO, dx, _, rfl, hp, T.cO, T.nO_number, (by show 0 < 1000; decide), ?_⟩
    refine ⟨_, rfl, _, rfl, p, A.CO, dx, _, rfl, upd_same, T.cO, T.nO_house, (by show 1 < 1000; decide), ?_⟩
    rw [upd_upd]
    refine ⟨_, rfl, _, rfl, p, A.CO, dx, _, rfl, upd_same, T.cO, T.nO_side, (by show 2 < 1000; decide), ?_⟩
    rw [upd_upd]
    refine ⟨_, rfl, _, rfl, p, A.CO, dx, _, rfl, upd_same, T.cO, T.nO_price, (by show 3 < 1000; decide), ?_⟩
    rw [upd_upd]
    refine ⟨_, rfl, _, rfl, p, A.CO, dx, _, rfl, upd_same, T.cO, T.nO_left, (by show 4 < 1000; decide), ?_⟩
    rw [upd_upd]
    refine ⟨_, rfl, _, rfl, p, A.CO, dx, _, rfl, upd_same, T.cO, T.nO_shown, (by show 5 < 1000; decide), ?_⟩
    rw [upd_upd]
    refine ⟨_, rfl, _, rfl, p, A.CO, dx, _, rfl, upd_same, T.cO, T.nO_visible, (by show 6 < 1000; decide), ?_⟩
    rw [upd_upd, ofs_made]
    refine ⟨_, rfl, p, dx, _, rfl, upd_same, ofs_no_show_next_part _, ⟨p, dx, ⟨n, h, b, pr, q, sh, q⟩⟩, rfl, upd_same, ?_⟩
    rw [upd_upd]
    exact k
end
end K29
end

section
set_option Elab.async false
set_option maxRecDepth 100000
set_option maxHeartbeats 4000000
set_option linter.unusedVariables false
/-! the checks, Report, Stop -/
namespace K29
open PySem L2
theorem iteFe {c : Bool} {X Y : Prop} (e : c = false) (h : Y) : if c = true then X else Y := by
  rw [e]
  exact iteF h
theorem iteTe {c : Bool} {X Y : Prop} (e : c = true) (h : X) : if c = true then X else Y := by
  rw [e]
  exact iteT h
def kd (rest : Bool) : Str := if rest = true then "rest" else "now"
theorem kd_rest (r : Bool) : decide (V.str (kd r) = V.str "rest") = r := by cases r <;> decide +kernel
theorem kd_all (r : Bool) : decide (V.str (kd r) = V.str "all") = false := by cases r <;> decide +kernel
theorem in_sides (b : Bool) : (if true = true then !inV (V.str (sd b)) [.str "buy", .str "sell"] else inV (V.str (sd b)) [.str "buy", .str "sell"]) = false := by cases b <;> decide +kernel
theorem in_kinds (r : Bool) : (if true = true then !inV (V.str (kd r)) [.str "rest", .str "now", .str "all"] else inV (V.str (kd r)) [.str "rest", .str "now", .str "all"]) = false := by cases r <;> decide +kernel
/-- a price, a quantity in range -/
def Rng (i : Int) : Prop := 1 ≤ i ∧ i ≤ 1000000
section
variable {P : Program} {w : World} {K : PySem.W.Frag} {mg : Str → Option Value} {base : Heap} {A : Ad}
def spCheck : Sp := fun vs H Q _ => ∃ (b r : Bool) (p : Option Int) (q sh : Int), vs = [.str (sd b), pV p, .int q, .str (kd r), .int sh] ∧ (∀ i, p = some i → Rng i) ∧ (r = true → p.isSome = true) ∧ Rng q ∧ 0 ≤ sh ∧ sh ≤ q ∧ (0 < sh → r = true) ∧ Q .non H
theorem ok_check_order (T : Txt K mg A) : FnOk P w K mg base CX0 3 A.f_check_order A.d_check_order ["side", "price", "quantity", "kind", "shown"] spCheck := by
  refine T.F_check_order.ok sc_check_order (fun vs H Q E h => ?_) (fun cdv Ar outer s H vs Q E hr h => ?_)
  · obtain ⟨_, _, _, _, _, rfl, _⟩ := h
    rfl
  · obtain ⟨b, r, p, q, sh, rfl, hp, hrp, hq, h0, h1, h2, k⟩ := h
    obtain ⟨aS, gS, hS⟩ := T.sides
    obtain ⟨aK, gK, hK⟩ := T.kinds
    have hr1 : Room 1 _ := hr.mono (by decide)
    have IR := ok_in_range (P := P) (w := w) (base := base) T
    have II := ok_is_integer (P := P) (w := w) (base := base) T
    refine ⟨_, pss_cons (ps_if (pt_cmpR op_notIn_seq (pv 0) (pe_glob (v := .ref aS) (by rfl) gS rfl) (by rfl)) pss_never pss_nil)
      (pss_cons (ps_if (pt_cmpR op_notIn_seq (pv 3) (pe_glob (v := .ref aK) (by rfl) gK rfl) (by rfl)) pss_never pss_nil)
      (Evl.pss_cut (ps_if (pt_cmpR op_isN (pv 1) pe_non (nomark _)) (pss_one (ps_if (pt_cmpR op_eq (pv 3) pe_str (nomark _)) pss_never pss_nil))
        (pss_one (ps_if (pt_not (pt_val (pe_call IR hr (by rfl) T.g_in_range T.F_in_range.kp T.b_in_range .nil pass0 (pa_cons (pv 1) pa_nil)))) pss_never pss_nil)))
      (pss_cons (ps_if (pt_not (pt_val (pe_call IR hr (by rfl) T.g_in_range T.F_in_range.kp T.b_in_range .nil pass0 (pa_cons (pv 2) pa_nil)))) pss_never pss_nil)
      (pss_cons (ps_if (PW.pt (pw_or (pt_not (pt_val (pe_call II hr1 (by rfl) T.g_is_integer T.F_is_integer.kp T.b_is_integer .nil pass0 (pa_cons (pv 4) pa_nil)))) (pw_or (pt_cmpR op_lt (pv 4) pe_int (nomark _)) (pw_or1 (pt_cmpR op_gt (pv 4) (pv 2) (nomark _)))))) pss_never pss_nil)
      (pss_one (ps_if (PW.pt (pw_and (pt_cmpR op_gt (pv 4) pe_int (nomark _)) (pw_and1 (pt_cmpR op_ne (pv 3) pe_str (nomark _))))) pss_never pss_nil)))))), ?_⟩
    refine ⟨_, rfl, aS, _, rfl, .inr (hS _), rfl, rfl, _, rfl, iteFe (in_sides b) ?_⟩
    refine ⟨_, rfl, aK, _, rfl, .inr (hK _), rfl, rfl, _, rfl, iteFe (in_kinds r) ?_⟩
    refine ⟨fun σ' H' => σ' = [some (.str (sd b)), some (pV p), some (.int q), some (.str (kd r)), some (.int sh)] ∧ H' = H, ⟨_, rfl, rfl, _, rfl, ?_⟩, ?_⟩
    rw [pV_non]
    · cases p with
      | none =>
        refine iteT ?_
        refine ⟨_, rfl, rfl, _, rfl, iteFe (by rw [kd_rest]; cases r with | true => exact absurd (hrp rfl) (by decide) | false => rfl) ?_⟩
        exact ⟨rfl, rfl⟩
      | some i =>
        refine iteF ?_
        refine ⟨_, rfl, i, rfl, hp i rfl, _, rfl, iteF ?_⟩
        exact ⟨rfl, rfl⟩
    rintro _ _ ⟨rfl, rfl⟩
    refine ⟨_, rfl, q, rfl, hq, _, rfl, iteF ?_⟩
    refine ⟨_, rfl, sh, rfl, _, rfl, iteF ?_⟩
    refine ⟨_, rfl, _, _, rfl, rfl, _, rfl, iteFe (decide_eq_false (by omega)) ?_⟩
    refine ⟨_, rfl, _, rfl, _, _, rfl, rfl, _, rfl, iteFe (decide_eq_false (by omega)) ?_⟩
    refine ⟨_, rfl, _, _, rfl, rfl, _, rfl, ?_⟩
    by_cases hsh : 0 < sh
    · refine iteTe (decide_eq_true hsh) ?_
      refine ⟨_, rfl, rfl, _, rfl, iteFe (by rw [kd_rest, h2 hsh]; rfl) ?_⟩
      exact k
    · refine iteFe (decide_eq_false hsh) ?_
      exact iteF k
def spCheckS : Sp := fun vs H Q _ => ∃ (b : Bool) (t : Int) (p : Option Int) (q : Int), vs = [.str (sd b), .int t, pV p, .int q] ∧ Rng t ∧ (∀ i, p = some i → Rng i) ∧ Rng q ∧ Q .non H
theorem ok_check_stop (T : Txt K mg A) : FnOk P w K mg base CX0 3 A.f_check_stop A.d_check_stop ["side", "trigger", "price", "quantity"] spCheckS := by
  refine T.F_check_stop.ok sc_check_stop (fun vs H Q E h => ?_) (fun cdv Ar outer s H vs Q E hr h => ?_)
  · obtain ⟨_, _, _, _, rfl, _⟩ := h
    rfl
  · obtain ⟨b, t, p, q, rfl, ht, hp, hq, k⟩ := h
    obtain ⟨aS, gS, hS⟩ := T.sides
    have IR := ok_in_range (P := P) (w := w) (base := base) T
    refine ⟨_, pss_cons (ps_if (pt_cmpR op_notIn_seq (pv 0) (pe_glob (v := .ref aS) (by rfl) gS rfl) (by rfl)) pss_never pss_nil)
      (pss_cons (ps_if (pt_not (pt_val (pe_call IR hr (by rfl) T.g_in_range T.F_in_range.kp T.b_in_range .nil pass0 (pa_cons (pv 1) pa_nil)))) pss_never pss_nil)
      (pss_cons (ps_if (PW.pt (pw_and (pt_cmpR op_notN (pv 2) pe_non (nomark _)) (pw_and1 (pt_not (pt_val (pe_call IR hr (by rfl) T.g_in_range T.F_in_range.kp T.b_in_range .nil pass0 (pa_cons (pv 2) pa_nil))))))) pss_never pss_nil)
      (pss_one (ps_if (pt_not (pt_val (pe_call IR hr (by rfl) T.g_in_range T.F_in_range.kp T.b_in_range .nil pass0 (pa_cons (pv 3) pa_nil)))) pss_never pss_nil)))), ?_⟩
    refine ⟨_, rfl, aS, _, rfl, .inr (hS _), rfl, rfl, _, rfl, iteFe (in_sides b) ?_⟩
    refine ⟨_, rfl, t, rfl, ht, _, rfl, iteF ?_⟩
    refine ⟨_, rfl, rfl, _, rfl, ?_⟩
    cases p with
    | none =>
      refine iteFe rfl ?_
      refine iteF ?_
      exact ⟨_, rfl, q, rfl, hq, _, rfl, iteF k⟩
    | some i =>
      refine iteTe rfl ?_
      refine ⟨_, rfl, i, rfl, hp i rfl, _, rfl, iteF ?_⟩
      exact ⟨_, rfl, q, rfl, hq, _, rfl, iteF k⟩

/-- an order or a stop order, for a report: number, house, side are to be read -/
def Told (K : PySem.W.Frag) (H : Hp) (a : Addr) (n : Int) (h : Str) (b : Bool) : Prop := ∃ (C dx : Addr) (fs : List (Str × V)), H a = some (.ins C dx fs) ∧ Cls K C ∧ NoAttr K C "number" ∧ NoAttr K C "house" ∧ NoAttr K C "side" ∧
  fs.lookup ("number" : Str) = some (.int n) ∧ fs.lookup ("house" : Str) = some (.str h) ∧ fs.lookup ("side" : Str) = some (.str (sd b))
theorem OAt.told {t : TO} {H : Hp} (T : Txt K mg A) (h : OAt A H t) : Told K H t.a t.d.num t.d.house t.d.buy := ⟨_, _, _, h, T.cO, T.nO_number, T.nO_house, T.nO_side, ofs_number _, ofs_house _, ofs_side _⟩
theorem SAt.told {t : TS} {H : Hp} (T : Txt K mg A) (h : SAt A H t) : Told K H t.a t.d.num t.d.house t.d.buy := ⟨_, _, _, h, T.cS, T.nS_number, T.nS_house, T.nS_side, sfs_number _, sfs_house _, sfs_side _⟩
def spRInit (K : PySem.W.Frag) (A : Ad) : Sp := fun vs H Q _ => ∃ (p dx a f r : Addr) (n : Int) (h : Str) (b : Bool) (k : Int), vs = [.ref p, .ref a, .ref f, .ref r, .int k] ∧ H p = some (.ins A.CR dx []) ∧ Told K H a n h b ∧ p ≠ a ∧ Q .non (upd H p (.ins A.CR dx (rfs n h b f r k)))
theorem ok_rinit (T : Txt K mg A) : FnOk P w K mg base CX0 1 A.f_Rinit A.d_Rinit ["self", "order", "fills", "removed", "resting"] (spRInit K A) := by
  refine T.F_Rinit.ok sc_Rinit (fun vs H Q E h => ?_) (fun cdv Ar outer s H vs Q E hr h => ?_)
  · obtain ⟨_, _, _, _, _, _, _, _, _, rfl, _⟩ := h
    rfl
  · obtain ⟨p, dx, a, f, r, n, h, b, kk, rfl, hp, ⟨C, da, fs, ha, cC, c1, c2, c3, e1, e2, e3⟩, hne, k⟩ := h
    refine ⟨_, pss_cons (ps_fld (pv 0) (pe_fld (pv 1) rfl) rfl) (pss_cons (ps_fld (pv 0) (pe_fld (pv 1) rfl) rfl) (pss_cons (ps_fld (pv 0) (pe_fld (pv 1) rfl) rfl) (pss_cons (ps_fld (pv 0) (pv 2) rfl) (pss_cons (ps_fld (pv 0) (pv 3) rfl) (pss_one (ps_fld (pv 0) (pv 4) rfl)))))), ?_⟩
    have ha' : ∀ o, upd H p o a = some (.ins C da fs) := fun o => (upd_ne hne.symm).trans ha
    refine ⟨_, rfl, a, C, da, _, _, rfl, ha, cC, c1, e1, _, rfl, p, A.CR, dx, _, rfl, hp, T.cR, T.nR_number, (by show 0 < 1000; decide), ?_⟩
    refine ⟨_, rfl, a, C, da, _, _, rfl, ha' _, cC, c2, e2, _, rfl, p, A.CR, dx, _, rfl, upd_same, T.cR, T.nR_house, (by show 1 < 1000; decide), ?_⟩
    rw [upd_upd]
    refine ⟨_, rfl, a, C, da, _, _, rfl, ha' _, cC, c3, e3, _, rfl, p, A.CR, dx, _, rfl, upd_same, T.cR, T.nR_side, (by show 2 < 1000; decide), ?_⟩
    rw [upd_upd]
    refine ⟨_, rfl, _, rfl, p, A.CR, dx, _, rfl, upd_same, T.cR, T.nR_fills, (by show 3 < 1000; decide), ?_⟩
    rw [upd_upd]
    refine ⟨_, rfl, _, rfl, p, A.CR, dx, _, rfl, upd_same, T.cR, T.nR_removed, (by show 4 < 1000; decide), ?_⟩
    rw [upd_upd]
    refine ⟨_, rfl, _, rfl, p, A.CR, dx, _, rfl, upd_same, T.cR, T.nR_resting, (by show 5 < 1000; decide), ?_⟩
    rw [upd_upd, rfs_made]
    exact k
def spSInit (A : Ad) : Sp := fun vs H Q _ => ∃ (p dx : Addr) (s : Sd), vs = [.ref p, .int s.num, .str s.house, .str (sd s.buy), .int s.trig, pV s.price, .int s.qty] ∧ H p = some (.ins A.CS dx []) ∧ Q .non (upd H p (.ins A.CS dx (sfs s)))
theorem ok_sinit (T : Txt K mg A) : FnOk P w K mg base CX0 1 A.f_Sinit A.d_Sinit ["self", "number", "house", "side", "trigger", "price", "quantity"] (spSInit A) := by
  refine T.F_Sinit.ok sc_Sinit (fun vs H Q E h => ?_) (fun cdv Ar outer s H vs Q E hr h => ?_)
  · obtain ⟨_, _, _, rfl, _⟩ := h
    rfl
  · obtain ⟨p, dx, ⟨n, h, b, tr, pr, q⟩, rfl, hp, k⟩ := h
    refine ⟨_, pss_cons (ps_fld (pv 0) (pv 1) rfl) (pss_cons (ps_fld (pv 0) (pv 2) rfl) (pss_cons (ps_fld (pv 0) (pv 3) rfl) (pss_cons (ps_fld (pv 0) (pv 4) rfl) (pss_cons (ps_fld (pv 0) (pv 5) rfl) (pss_one (ps_fld (pv 0) (pv 6) rfl)))))), ?_⟩
    refine ⟨_, rfl, _, rfl, p, A.CS, dx, _, rfl, hp, T.cS, T.nS_number, (by show 0 < 1000; decide), ?_⟩
    refine ⟨_, rfl, _, rfl, p, A.CS, dx, _, rfl, upd_same, T.cS, T.nS_house, (by show 1 < 1000; decide), ?_⟩
    rw [upd_upd]
    refine ⟨_, rfl, _, rfl, p, A.CS, dx, _, rfl, upd_same, T.cS, T.nS_side, (by show 2 < 1000; decide), ?_⟩
    rw [upd_upd]
    refine ⟨_, rfl, _, rfl, p, A.CS, dx, _, rfl, upd_same, T.cS, T.nS_trigger, (by show 3 < 1000; decide), ?_⟩
    rw [upd_upd]
    refine ⟨_, rfl, _, rfl, p, A.CS, dx, _, rfl, upd_same, T.cS, T.nS_price, (by show 4 < 1000; decide), ?_⟩
    rw [upd_upd]
    refine ⟨_, rfl, _, rfl, p, A.CS, dx, _, rfl, upd_same, T.cS, T.nS_quantity, (by show 5 < 1000; decide), ?_⟩
    rw [upd_upd, sfs_made]
    exact k
def spSReached (A : Ad) : Sp := fun vs H Q _ => ∃ (t : TS) (l : Option Int), vs = [.ref t.a, pV l] ∧ SAt A H t ∧ Q (.bl (reached l t.d)) H
theorem ok_sreached (T : Txt K mg A) : FnOk P w K mg base CX0 1 A.f_Sis_reached A.d_Sis_reached ["self", "last"] (spSReached A) := by
  refine T.F_Sis_reached.ok sc_Sis_reached (fun vs H Q E h => ?_) (fun cdv Ar outer s H vs Q E hr h => ?_)
  · obtain ⟨_, _, rfl, _⟩ := h
    rfl
  · obtain ⟨⟨a, dx, ⟨n, h, b, tr, pr, q⟩⟩, l, rfl, hp, k⟩ := h
    refine ⟨_, pss_cons (ps_if (pt_cmpR op_isN (pv 1) pe_non (nomark _)) (pss_one (ps_ret pe_bl)) pss_nil) (pss_cons (ps_if (pt_cmpR op_eq (pe_fld (pv 0) rfl) pe_str (nomark _)) (pss_one (ps_ret (pe_cmpR op_ge (pv 1) (pe_fld (pv 0) rfl) (nomark _)))) pss_nil) (pss_one (ps_ret (pe_cmpR op_le (pv 1) (pe_fld (pv 0) rfl) (nomark _))))), ?_⟩
    refine ⟨_, rfl, rfl, _, rfl, ?_⟩
    rw [pV_non]
    cases l with
    | none => exact iteT k
    | some l =>
      refine iteF ?_
      refine ⟨_, rfl, a, A.CS, dx, _, _, rfl, hp, T.cS, T.nS_side, sfs_side _, rfl, _, rfl, ?_⟩
      rw [sd_buy]
      cases b
      · exact iteF ⟨_, rfl, _, rfl, a, A.CS, dx, _, _, rfl, hp, T.cS, T.nS_trigger, sfs_trigger _, _, _, rfl, rfl, k⟩
      · exact iteT ⟨_, rfl, _, rfl, a, A.CS, dx, _, _, rfl, hp, T.cS, T.nS_trigger, sfs_trigger _, _, _, rfl, rfl, k⟩
def srow (s : Sd) : List V := [.int s.num, .str s.house, .str (sd s.buy), .int s.trig, pV s.price, .int s.qty]
def spSEntry (A : Ad) : Sp := fun vs H Q _ => ∃ t : TS, vs = [.ref t.a] ∧ SAt A H t ∧ ∀ p, H p = none → Q (.ref p) (upd H p (.tup (srow t.d)))
theorem ok_sentry (T : Txt K mg A) : FnOk P w K mg base CX0 1 A.f_Sentry A.d_Sentry ["self"] (spSEntry A) := by
  refine T.F_Sentry.ok sc_Sentry (fun vs H Q E h => ?_) (fun cdv Ar outer s H vs Q E hr h => ?_)
  · obtain ⟨t, rfl, _⟩ := h
    rfl
  · obtain ⟨t, rfl, h, k⟩ := h
    refine ⟨_, pss_one (ps_ret (pe_tup (pa_cons (pe_fld (pv 0) rfl) (pa_cons (pe_fld (pv 0) rfl) (pa_cons (pe_fld (pv 0) rfl) (pa_cons (pe_fld (pv 0) rfl) (pa_cons (pe_fld (pv 0) rfl) (pa_cons (pe_fld (pv 0) rfl) pa_nil)))))))), ?_⟩
    exact ⟨_, rfl, t.a, A.CS, t.dx, _, _, rfl, h, T.cS, T.nS_number, sfs_number _, _, rfl, t.a, A.CS, t.dx, _, _, rfl, h, T.cS, T.nS_house, sfs_house _, _, rfl, t.a, A.CS, t.dx, _, _, rfl, h, T.cS, T.nS_side, sfs_side _, _, rfl, t.a, A.CS, t.dx, _, _, rfl, h, T.cS, T.nS_trigger, sfs_trigger _, _, rfl, t.a, A.CS, t.dx, _, _, rfl, h, T.cS, T.nS_price, sfs_price _, _, rfl, t.a, A.CS, t.dx, _, _, rfl, h, T.cS, T.nS_quantity, sfs_quantity _, (by show 6 ≤ sizeLine; decide), fun p hp => k p hp⟩
end
end K29
end

section
set_option Elab.async false
set_option maxRecDepth 100000
set_option maxHeartbeats 4000000
set_option linter.unusedVariables false
/-! Book's small methods -/
namespace K29
open PySem L2

/-! ### data in a heap that grows -/
mutual
theorem dp_mono {K : PySem.W.Frag} {H H' : Hp} (s : Same H H') : ∀ {d : PyData} {v : V}, Dp K H v d → Dp K H' v d
  | _, _, .non => .non
  | _, _, .bl b => .bl b
  | _, _, .int i => .int i
  | _, _, .str x => .str x
  | _, _, .lst h a => .lst (s.seq h) (dpa_mono s a)
  | _, _, .tup h a => .tup (Evl.ex_t s h) (dpa_mono s a)
theorem dpa_mono {K : PySem.W.Frag} {H H' : Hp} (s : Same H H') : ∀ {ds : List PyData} {vs : List V}, DpAll K H vs ds → DpAll K H' vs ds
  | _, _, .nil => .nil
  | _, _, .cons h a => .cons (dp_mono s h) (dpa_mono s a)
end
theorem dpa_app {K : PySem.W.Frag} {H : Hp} : ∀ {vs ws : List V} {ds es : List PyData}, DpAll K H vs ds → DpAll K H ws es → DpAll K H (vs ++ ws) (ds ++ es)
  | _, _, _, _, .nil, h => h
  | _, _, _, _, .cons a b, h => .cons a (dpa_app b h)
theorem dpa_snoc {K : PySem.W.Frag} {H : Hp} {vs : List V} {ds : List PyData} {v : V} {d : PyData} (h : DpAll K H vs ds) (a : Dp K H v d) : DpAll K H (vs ++ [v]) (ds ++ [d]) := dpa_app h (.cons a .nil)
theorem dpa_len {K : PySem.W.Frag} {H : Hp} : ∀ {vs : List V} {ds : List PyData}, DpAll K H vs ds → vs.length = ds.length
  | _, _, .nil => rfl
  | _, _, .cons _ b => congrArg Nat.succ (dpa_len b)
theorem take_snoc {α : Type} {l : List α} {i : Nat} {x : α} (h : l[i]? = some x) : l.take (i + 1) = l.take i ++ [x] := by rw [List.take_add_one, h]; rfl
def pD : Option Int → PyData
  | none => .none
  | some i => .int i
theorem dp_pV {K : PySem.W.Frag} {H : Hp} (x : Option Int) : Dp K H (pV x) (pD x) := by
  cases x with
  | none => exact .non
  | some i => exact .int i
def odata (o : Od) : PyData := .tuple [.int o.num, .str o.house, pD o.price, .int o.left, .int o.vis]
def sdata (s : Sd) : PyData := .tuple [.int s.num, .str s.house, .str (sd s.buy), .int s.trig, pD s.price, .int s.qty]
theorem dp_orow {K : PySem.W.Frag} {H : Hp} {p : Addr} {o : Od} (h : H p = some (.tup (orow o))) : Dp K H (.ref p) (odata o) := .tup (SqT.of h) (.cons (.int _) (.cons (.str _) (.cons (dp_pV _) (.cons (.int _) (.cons (.int _) .nil)))))
theorem dp_srow {K : PySem.W.Frag} {H : Hp} {p : Addr} {s : Sd} (h : H p = some (.tup (srow s))) : Dp K H (.ref p) (sdata s) := .tup (SqT.of h) (.cons (.int _) (.cons (.str _) (.cons (.str _) (.cons (.int _) (.cons (dp_pV _) (.cons (.int _) .nil))))))
/-- a list that is being filled: what its items are stands in F -/
def Fill (K : PySem.W.Frag) (H0 H : Hp) (D : Addr) (ds : List PyData) : Prop := ∃ (F : Hp) (vs : List V), Same H0 F ∧ F D = none ∧ Same F H ∧ H D = some (.lst vs) ∧ DpAll K F vs ds
theorem Fill.start {K : PySem.W.Frag} {H : Hp} {D : Addr} (h : H D = none) : Fill K H (upd H D (.lst [])) D [] := ⟨H, [], Same.refl H, h, Same.newH h, upd_same, .nil⟩
theorem Fill.snoc {K : PySem.W.Frag} {H0 H H' : Hp} {D : Addr} {ds : List PyData} {v : V} {d : PyData} (f : Fill K H0 H D ds) (F' : Hp) (s : ∀ F, Same H0 F → F D = none → Same F H → ∃ F', Same F F' ∧ F' D = none ∧ Same F' H' ∧ Dp K F' v d) (hD : ∀ o, H D = some o → H' D = some o) :
    ∃ vs, H' D = some (.lst vs) ∧ vs.length = ds.length ∧ Fill K H0 (upd H' D (.lst (vs ++ [v]))) D (ds ++ [d]) := by
  obtain ⟨F, vs, s0, fD, s1, hv, a⟩ := f
  obtain ⟨F', s2, fD', s3, hd⟩ := s F s0 fD s1
  exact ⟨vs, hD _ hv, dpa_len a, F', vs ++ [v], s0.trans s2, fD', Same.up s3 fD', upd_same, dpa_snoc (dpa_mono s2 a) hd⟩
theorem Fill.same {K : PySem.W.Frag} {H0 H : Hp} {D : Addr} {ds : List PyData} (f : Fill K H0 H D ds) : Same H0 H := by
  obtain ⟨F, vs, s0, _, s1, _, _⟩ := f
  exact s0.trans s1
theorem Fill.dp {K : PySem.W.Frag} {H0 H : Hp} {D : Addr} {ds : List PyData} (f : Fill K H0 H D ds) : Dp K H (.ref D) (.list ds) := by
  obtain ⟨F, vs, s0, _, s1, hv, a⟩ := f
  exact .lst (SqL.of hv) (dpa_mono s1 a)
/-- a new tuple as the next item -/
theorem Fill.tup {K : PySem.W.Frag} {H0 H : Hp} {D p : Addr} {ds : List PyData} {vs : List V} {d : PyData} (f : Fill K H0 H D ds) (hp : H p = none) (hd : ∀ F, F p = some (.tup vs) → Same H0 F → Dp K F (.ref p) d) :
    ∃ ws, upd H p (.tup vs) D = some (.lst ws) ∧ ws.length = ds.length ∧ Fill K H0 (upd (upd H p (.tup vs)) D (.lst (ws ++ [.ref p]))) D (ds ++ [d]) := by
  obtain ⟨F0, ws0, _, _, _, hv0, _⟩ := id f
  have hpD : D ≠ p := ne_of_none hv0 hp
  refine f.snoc H (fun F s0 fD s1 => ⟨upd F p (.tup vs), Same.newH (s1.free hp), by rw [upd_ne hpD]; exact fD, fun b o e => ?_, hd _ upd_same (s0.trans (Same.newH (s1.free hp)))⟩) fun o e => by rw [upd_ne hpD]; exact e
  by_cases q : b = p
  · rw [q, upd_same] at e ⊢
    exact e
  · rw [upd_ne q] at e ⊢
    exact s1 b o e

theorem TO.ref_ix {L : List TO} {i : Nat} {x : V} (h : (L.map TO.ref)[i]? = some x) : ∃ t, L[i]? = some t ∧ x = .ref t.a := by
  rw [List.getElem?_map] at h
  cases e : L[i]? with
  | none =>
    rw [e] at h
    cases h
  | some t =>
    rw [e] at h
    exact ⟨t, rfl, (Option.some.inj h).symm⟩
theorem TS.ref_ix {L : List TS} {i : Nat} {x : V} (h : (L.map TS.ref)[i]? = some x) : ∃ t, L[i]? = some t ∧ x = .ref t.a := by
  rw [List.getElem?_map] at h
  cases e : L[i]? with
  | none =>
    rw [e] at h
    cases h
  | some t =>
    rw [e] at h
    exact ⟨t, rfl, (Option.some.inj h).symm⟩
theorem val_side (b : Bool) (x y : Addr) : some (V.ref (if b = true then x else y)) = valV [(Sum.inr ("buy" : Str), V.ref x), (Sum.inr ("sell" : Str), V.ref y)] (Sum.inr (sd b) : Key) := by cases b <;> kernel_rfl
theorem BCells.get {A : Ad} {H : Hp} {B : TB} (c : BCells A H B) (b : Bool) : DGet H B.rd (.str (sd b)) (some (.ref (B.l b))) := by
  refine .inl ⟨_, .inr (sd b), .inl c.rd, rfl, ?_⟩
  have := val_side b (B.l true) (B.l false)
  cases b
  · exact this
  · exact this
section
variable {P : Program} {w : World} {K : PySem.W.Frag} {mg : Str → Option Value} {base : Heap} {A : Ad}
def spOrders (K : PySem.W.Frag) (A : Ad) : Sp := fun vs H Q _ => ∃ (B : TB) (b : Bool), vs = [.ref B.p, .str (sd b)] ∧ BCells A H B ∧ (B.os b).length ≤ 10000 ∧
  ∀ H' p, Same H H' → Dp K H' (.ref p) (.list ((B.os b).map fun t => odata t.d)) → Q (.ref p) H'
theorem ok_orders (T : Txt K mg A) : FnOk P w K mg base CX0 2 A.f_Borders A.d_Borders ["self", "side"] (spOrders K A) := by
  refine T.F_Borders.ok sc_Borders (fun vs H Q E h => ?_) (fun cdv Ar outer s H vs Q E hr h => ?_)
  · obtain ⟨_, _, rfl, _⟩ := h
    rfl
  · obtain ⟨B, b, rfl, c, hlen, k⟩ := h
    refine ⟨_, pss_one (ps_ret (pe_lc (own := [("order", 2)]) (g := gName 2) (tt := tYes) rfl sc_Borders.nd (pi_list (pe_dget (hu_of hr) (pe_fld (pv 0) rfl) (pv 1) (fun _ _ => rfl)))
      (blkOk_by (N := ["self", "side", "order"]) (sc := defScope s_Borders) (by decide +kernel)) (fun _ _ _ _ _ => pg_name (i := 2) sc_Borders.nd rfl (Or.inl rfl)) (fun _ _ _ _ _ => pts_nil) (fun _ _ _ _ _ => pe_meth0 (pv 2) T.cO T.h_Oentry (ok_oentry T) hr T.b_Oentry .nil pass0))), ?_⟩
    refine ⟨_, rfl, B.p, A.CB, B.dx, _, _, rfl, c.ob, T.cB, T.nB_resting, bfs_resting _ _ _ _, _, rfl, B.rd, _, rfl, c.get b, B.l b, rfl, ⟨_, SqL.of (c.l b)⟩, fun D hD => ?_⟩
    refine lc_list (K := K) (a := B.l b) (xs := (B.os b).map TO.ref) (fun i H' => Fill K H H' D (((B.os b).take i).map fun t => odata t.d)) (Fill.start hD) (fun i H' _ f => SqL.of (f.same _ _ (c.l b))) ?_ ?_
    · intro i x H' hi f
      obtain ⟨t, ht, rfl⟩ := TO.ref_ix hi
      refine ⟨rfl, ?_⟩
      have hot := f.same _ _ (c.o b t (List.mem_of_getElem? ht))
      refine ⟨_, rfl, t.a, t.dx, _, rfl, hot, ofs_no_entry _, t, rfl, hot, fun p hp => ?_⟩
      obtain ⟨ws, h1, h2, h3⟩ := f.tup hp fun F hF _ => dp_orow hF
      refine ⟨ws, h1, ?_, ?_⟩
      · rw [h2, List.length_map, List.length_take]
        exact Nat.lt_of_le_of_lt (Nat.le_trans (Nat.min_le_right _ _) hlen) (by decide)
      · rw [take_snoc ht, List.map_append]
        exact h3
    · intro H' f
      rw [List.length_map, List.take_length] at f
      exact k H' D f.same f.dp
def spStops (K : PySem.W.Frag) (A : Ad) : Sp := fun vs H Q _ => ∃ (B : TB), vs = [.ref B.p] ∧ BCells A H B ∧ B.ss.length ≤ 10000 ∧
  ∀ H' p, Same H H' → Dp K H' (.ref p) (.list (B.ss.map fun t => sdata t.d)) → Q (.ref p) H'
theorem ok_stops (T : Txt K mg A) : FnOk P w K mg base CX0 2 A.f_Bstops A.d_Bstops ["self"] (spStops K A) := by
  refine T.F_Bstops.ok sc_Bstops (fun vs H Q E h => ?_) (fun cdv Ar outer s H vs Q E hr h => ?_)
  · obtain ⟨_, rfl, _⟩ := h
    rfl
  · obtain ⟨B, rfl, c, hlen, k⟩ := h
    refine ⟨_, pss_one (ps_ret (pe_lc (own := [("stop", 1)]) (g := gName 1) (tt := tYes) rfl sc_Bstops.nd (pi_list (pe_fld (pv 0) rfl))
      (blkOk_by (N := ["self", "stop"]) (sc := defScope s_Bstops) (by decide +kernel)) (fun _ _ _ _ _ => pg_name (i := 1) sc_Bstops.nd rfl (Or.inl rfl)) (fun _ _ _ _ _ => pts_nil) (fun _ _ _ _ _ => pe_meth0 (pv 1) T.cS T.h_Sentry (ok_sentry T) hr T.b_Sentry .nil pass0))), ?_⟩
    refine ⟨_, rfl, B.p, A.CB, B.dx, _, _, rfl, c.ob, T.cB, T.nB_stops, bfs_stops _ _ _ _, B.st, rfl, ⟨_, SqL.of c.st⟩, fun D hD => ?_⟩
    refine lc_list (K := K) (a := B.st) (xs := B.ss.map TS.ref) (fun i H' => Fill K H H' D ((B.ss.take i).map fun t => sdata t.d)) (Fill.start hD) (fun i H' _ f => SqL.of (f.same _ _ c.st)) ?_ ?_
    · intro i x H' hi f
      obtain ⟨t, ht, rfl⟩ := TS.ref_ix hi
      refine ⟨rfl, ?_⟩
      have hot := f.same _ _ (c.s t (List.mem_of_getElem? ht))
      refine ⟨_, rfl, t.a, t.dx, _, rfl, hot, sfs_no_entry _, t, rfl, hot, fun p hp => ?_⟩
      obtain ⟨ws, h1, h2, h3⟩ := f.tup hp fun F hF _ => dp_srow hF
      refine ⟨ws, h1, ?_, ?_⟩
      · rw [h2, List.length_map, List.length_take]
        exact Nat.lt_of_le_of_lt (Nat.le_trans (Nat.min_le_right _ _) hlen) (by decide)
      · rw [take_snoc ht, List.map_append]
        exact h3
    · intro H' f
      rw [List.length_map, List.take_length] at f
      exact k H' D f.same f.dp
def spNew (A : Ad) : Sp := fun vs H Q _ => ∃ (B : TB), vs = [.ref B.p] ∧ BCells A H B ∧ Q (.int B.next) (upd H B.p (.ins A.CB B.dx (bfs B.rd B.st (B.next + 1) B.last)))
theorem ok_new (T : Txt K mg A) : FnOk P w K mg base CX0 1 A.f_Bnew_number A.d_Bnew_number ["self"] (spNew A) := by
  refine T.F_Bnew_number.ok sc_Bnew_number (fun vs H Q E h => ?_) (fun cdv Ar outer s H vs Q E hr h => ?_)
  · obtain ⟨_, rfl, _⟩ := h
    rfl
  · obtain ⟨B, rfl, c, k⟩ := h
    refine ⟨_, pss_cons (ps_set (i := 1) sc_Bnew_number.nd rfl (Or.inl rfl) (pe_fld (pv 0) rfl)) (pss_cons (ps_fld (pv 0) (pe_op op_add (pv 1) pe_int) rfl) (pss_one (ps_ret (pv 1)))), ?_⟩
    refine ⟨_, rfl, B.p, A.CB, B.dx, _, _, rfl, c.ob, T.cB, T.nB_next_number, bfs_next_number _ _ _ _, _, rfl, _, _, rfl, rfl, _, rfl, B.p, A.CB, B.dx, _, rfl, c.ob, T.cB, T.nB_next_number, (by show 4 < 1000; decide), ?_⟩
    rw [bfs_put_next]
    exact ⟨_, rfl, k⟩
def fst_ (B : TB) : Option TS := B.ss.find? fun t => reached B.last t.d
def spFirst (A : Ad) : Sp := fun vs H Q _ => ∃ (B : TB), vs = [.ref B.p] ∧ BCells A H B ∧ Q ((fst_ B).elim V.non TS.ref) H
theorem ok_first (T : Txt K mg A) : FnOk P w K mg base CX0 2 A.f_Bfirst_reached A.d_Bfirst_reached ["self"] (spFirst A) := by
  refine T.F_Bfirst_reached.ok sc_Bfirst_reached (fun vs H Q E h => ?_) (fun cdv Ar outer s H vs Q E hr h => ?_)
  · obtain ⟨_, rfl, _⟩ := h
    rfl
  · obtain ⟨B, rfl, c, k⟩ := h
    refine ⟨_, pss_cons (ps_for PassesOwn.never rfl (pi_list (pe_fld (pv 0) rfl)) (pg_name (i := 1) sc_Bfirst_reached.nd rfl (Or.inl rfl))
      (pss_one (ps_if (pt_val (pe_meth (pv 1) T.cS T.h_Sis_reached (ok_sreached T) hr T.b_Sis_reached .nil pass0 (pa_cons (pe_fld (pv 0) rfl) pa_nil))) (pss_one (ps_ret (pv 1))) pss_nil))) (pss_one (ps_ret pe_non)), ?_⟩
    refine ⟨_, rfl, B.p, A.CB, B.dx, _, _, rfl, c.ob, T.cB, T.nB_stops, bfs_stops _ _ _ _, B.st, rfl, ⟨_, SqL.of c.st⟩, for_list (K := K) (a := B.st) (xs := B.ss.map TS.ref)
      (fun i σ H' => ∃ v, σ = [some (.ref B.p), v] ∧ H' = H ∧ fst_ B = (B.ss.drop i).find? fun t => reached B.last t.d) ⟨none, rfl, rfl, rfl⟩ (fun i σ H' _ ⟨_, _, e, _⟩ => by rw [e]; exact SqL.of c.st) ?_ ?_⟩
    · rintro i x σ H' hi ⟨v, rfl, rfl, ef⟩
      obtain ⟨t, ht, rfl⟩ := TS.ref_ix hi
      have hst := c.s t (List.mem_of_getElem? ht)
      refine ⟨_, rfl, t.a, t.dx, _, rfl, hst, sfs_no_is_reached _, _, rfl, B.p, A.CB, B.dx, _, _, rfl, c.ob, T.cB, T.nB_last, bfs_last _ _ _ _, t, B.last, rfl, hst, _, rfl, ?_⟩
      have ed : B.ss.drop i = t :: B.ss.drop (i + 1) := by
        obtain ⟨h1, h2⟩ := List.getElem?_eq_some_iff.mp ht
        rw [List.drop_eq_getElem_cons h1, h2]
      rw [ed, List.find?_cons] at ef
      cases hq : reached B.last t.d with
      | true =>
        rw [hq] at ef
        refine iteT ⟨_, rfl, ?_⟩
        rw [ef] at k
        exact k
      | false =>
        rw [hq] at ef
        exact iteF ⟨_, rfl, rfl, ef⟩
    · rintro σ H' ⟨v, rfl, rfl, ef⟩
      rw [List.length_map, List.drop_length] at ef
      rw [ef] at k
      exact k
end
end K29
end

section
set_option Elab.async false
set_option maxRecDepth 100000
set_option maxHeartbeats 4000000
set_option linter.unusedVariables false
/-! Book: __init__, _owned, _remove, _insert -/
namespace K29
open PySem L2
def sides (l : Bool → Addr) : List (Key × V) := [(.inr "buy", .ref (l true)), (.inr "sell", .ref (l false))]
theorem sides_put (l : Bool → Addr) (s : Bool) (k : Addr) : putK (sides l) (Sum.inr (sd s) : Key) (.ref k) = sides (fun x => if x = s then k else l x) := by cases s <;> kernel_rfl
theorem sides_made (x y : Addr) : mergeK [] [((Sum.inr "buy" : Key), V.ref x), (Sum.inr "sell", V.ref y)] = sides (fun b => if b = true then x else y) := by kernel_rfl
def TB.newL (B : TB) (s : Bool) (k : Addr) (L : List TO) : TB := { B with l := fun x => if x = s then k else B.l x, os := fun x => if x = s then L else B.os x }
theorem newL_same {B : TB} {s : Bool} {k : Addr} {L : List TO} : (B.newL s k L).os s = L ∧ (B.newL s k L).l s = k := ⟨if_pos rfl, if_pos rfl⟩
theorem newL_ne {B : TB} {s r : Bool} {k : Addr} {L : List TO} (h : r ≠ s) : (B.newL s k L).os r = B.os r ∧ (B.newL s k L).l r = B.l r := ⟨if_neg h, if_neg h⟩
section
variable {A : Ad} {F F' H H' : Hp} {B : TB}
/-- a part of a side stays, in a new list -/
theorem BookAt.newL (b : BookAt A F H B) {s : Bool} {k : Addr} {L : List TO} (hk : H k = some (.lst (L.map TO.ref))) (hf : ¬ B.foot k) (hF : F k = none) (hL : L.Sublist (B.os s)) :
    BookAt A F (upd H B.rd (.dK (sides fun x => if x = s then k else B.l x))) (B.newL s k L) := by
  have c := b.c
  have kl : ∀ r, k ≠ B.l r := fun r e => hf (by rw [e]; exact B.foot_l r)
  have krd : k ≠ B.rd := fun e => hf (by rw [e]; exact B.foot_rd)
  have kst : B.st ≠ k := fun e => hf (by rw [← e]; exact B.foot_st)
  have mem : ∀ r, ∀ t ∈ (B.newL s k L).os r, t ∈ B.os r := fun r t ht => by
    by_cases hr : r = s
    · rw [hr, newL_same.1] at ht
      rw [hr]
      exact hL.subset ht
    · rwa [(newL_ne hr).1] at ht
  refine ⟨Same.up b.same (b.out _ B.foot_rd), ?_, ⟨(upd_ne c.p_rd).trans c.ob, upd_same, fun r => ?_, (upd_ne c.st_rd).trans c.st, fun r t ht => (upd_ne (OAt.rd c (c.o r t (mem r t ht)))).trans (c.o r t (mem r t ht)), fun t ht => (upd_ne (ne_of (c.s t ht) c.rd ins_ne_dK)).trans (c.s t ht), fun r => ?_, fun t ht u hu => c.dj t (mem _ t ht) u (mem _ u hu), ?_, fun r => ?_⟩⟩
  · rintro a (e | e | e | ⟨r, e⟩ | ⟨r, t, ht, e⟩ | e)
    · exact b.out a (.inl e)
    · exact b.out a (.inr (.inl e))
    · exact b.out a (.inr (.inr (.inl e)))
    · by_cases hr : r = s
      · rw [hr, newL_same.2] at e
        rw [e]
        exact hF
      · rw [(newL_ne hr).2] at e
        rw [e]
        exact b.out _ (B.foot_l r)
    · rw [e]
      exact b.out _ (TB.foot_o (mem r t ht))
    · exact b.out a (.inr (.inr (.inr (.inr (.inr e)))))
  · by_cases hr : r = s
    · rw [hr, newL_same.1, newL_same.2]
      exact (upd_ne krd).trans hk
    · rw [(newL_ne hr).1, (newL_ne hr).2]
      exact (upd_ne (c.l_rd r)).trans (c.l r)
  · by_cases hr : r = s
    · rw [hr, newL_same.1]
      exact (c.nd s).sublist (hL.map _)
    · rw [(newL_ne hr).1]
      exact c.nd r
  · cases s with
    | true => exact kl false
    | false => exact (kl true).symm
  · show B.st ≠ if r = s then k else B.l r
    split
    · exact kst
    · exact c.ls r
end
section
variable {P : Program} {w : World} {K : PySem.W.Frag} {mg : Str → Option Value} {base : Heap} {A : Ad}
def spBInit (A : Ad) : Sp := fun vs H Q _ => ∃ (p dx : Addr), vs = [.ref p, .int 1] ∧ H p = some (.ins A.CB dx []) ∧
  ∀ H' B, B.p = p → BCells A H' B → B.bk = ⟨fun _ => [], [], none⟩ → B.next = 1 → (∀ b o, H b = some o → b ≠ p → H' b = some o) → (∀ a, B.foot a → a = p ∨ H a = none) → Q .non H'
theorem ok_binit (T : Txt K mg A) : FnOk P w K mg base CX0 1 A.f_Binit A.d_Binit ["self", "first_number"] (spBInit A) := by
  refine T.F_Binit.ok sc_Binit (fun vs H Q E h => ?_) (fun cdv Ar outer s H vs Q E hr h => ?_)
  · obtain ⟨_, _, rfl, _⟩ := h
    rfl
  · obtain ⟨p, dx, rfl, hp, k⟩ := h
    refine ⟨_, pss_cons (ps_fld (pv 0) (pe_disp (pps_cons pe_str (pe_lst pa_nil) (pps_cons pe_str (pe_lst pa_nil) pps_nil)) (by rfl) (by rfl) (fun z => by cases z) (by decide)) rfl)
      (pss_cons (ps_fld (pv 0) (pe_lst pa_nil) rfl) (pss_cons (ps_fld (pv 0) (pv 1) rfl) (pss_one (ps_fld (pv 0) pe_non rfl)))), ?_⟩
    intro d hd
    refine ⟨Nat.zero_le _, fun x hx => ⟨Nat.zero_le _, fun y hy => ?_⟩⟩
    have dx_ : d ≠ x := fun e => by rw [← e, upd_same] at hx; cases hx
    have hx0 : H x = none := by rwa [upd_ne dx_.symm] at hx
    have dy_ : d ≠ y := fun e => by rw [← e, upd_ne dx_, upd_same] at hy; cases hy
    have xy_ : x ≠ y := fun e => by rw [← e, upd_same] at hy; cases hy
    have hy0 : H y = none := by rwa [upd_ne xy_.symm, upd_ne dy_.symm] at hy
    have pd : p ≠ d := ne_of_none hp hd
    have px : p ≠ x := ne_of_none hp hx0
    have py : p ≠ y := ne_of_none hp hy0
    refine ⟨by rw [upd_ne dy_, upd_ne dx_, upd_same], [(.inr "buy", .ref x), (.inr "sell", .ref y)], rfl, (by show 2 ≤ 15; decide), ?_⟩
    rw [sides_made]
    have e1 : ∀ b, b ≠ d → b ≠ x → b ≠ y → upd (upd (upd (upd H d (.dK [])) x (.lst [])) y (.lst [])) d (.dK (sides fun b => if b = true then x else y)) b = H b := fun b h1 h2 h3 => by rw [upd_ne h1, upd_ne h3, upd_ne h2, upd_ne h1]
    refine ⟨_, rfl, p, A.CB, dx, _, rfl, (e1 p pd px py).trans hp, T.cB, T.nB_resting, (by show 0 < 1000; decide), ?_⟩
    refine ⟨Nat.zero_le _, fun z hz => ?_⟩
    have pz : p ≠ z := fun e => by rw [← e, upd_same] at hz; cases hz
    rw [upd_ne pz.symm] at hz
    have zd : z ≠ d := fun e => by rw [e, upd_same] at hz; cases hz
    rw [upd_ne zd] at hz
    have zy : z ≠ y := fun e => by rw [e, upd_same] at hz; cases hz
    rw [upd_ne zy] at hz
    have zx : z ≠ x := fun e => by rw [e, upd_same] at hz; cases hz
    rw [upd_ne zx, upd_ne zd] at hz
    refine ⟨_, rfl, p, A.CB, dx, _, rfl, (upd_ne pz).trans upd_same, T.cB, T.nB_stops, (by show 1 < 1000; decide), ?_⟩
    refine ⟨_, rfl, _, rfl, p, A.CB, dx, _, rfl, upd_same, T.cB, T.nB_next_number, (by show 2 < 1000; decide), ?_⟩
    rw [upd_upd]
    refine ⟨_, rfl, p, A.CB, dx, _, rfl, upd_same, T.cB, T.nB_last, (by show 3 < 1000; decide), ?_⟩
    rw [upd_upd, bfs_made]
    refine k _ ⟨p, dx, d, z, fun b => if b = true then x else y, fun _ => [], [], 1, none⟩ rfl ⟨upd_same, ?_, fun s => ?_, ?_, fun s t ht => (nomatch ht), fun t ht => (nomatch ht), fun s => List.nodup_nil, fun t ht => (nomatch ht), xy_, fun s => ?_⟩ rfl rfl (fun b o hb hbp => ?_) ?_
    · show upd _ p _ d = _
      rw [upd_ne pd.symm, upd_ne zd.symm, upd_ne pd.symm, upd_same]
      rfl
    · cases s with
      | true =>
        show upd _ p _ x = _
        rw [upd_ne px.symm, upd_ne zx.symm, upd_ne px.symm, upd_ne dx_.symm, upd_ne xy_, upd_same]
        rfl
      | false =>
        show upd _ p _ y = _
        rw [upd_ne py.symm, upd_ne zy.symm, upd_ne py.symm, upd_ne dy_.symm, upd_same]
        rfl
    · show upd _ p _ z = _
      rw [upd_ne pz.symm, upd_same]
      rfl
    · cases s with
      | true => exact zx
      | false => exact zy
    · have hd' : b ≠ d := ne_of_none hb hd
      have hx' : b ≠ x := ne_of_none hb hx0
      have hy' : b ≠ y := ne_of_none hb hy0
      have hz' : b ≠ z := ne_of_none hb hz
      rw [upd_ne hbp, upd_ne hz', upd_ne hbp, e1 b hd' hx' hy']
      exact hb
    · rintro a (e | e | e | ⟨s, e⟩ | ⟨s, t, ht, e⟩ | ⟨t, ht, e⟩)
      · exact .inl e
      · exact .inr (by rw [e]; exact hd)
      · exact .inr (by rw [e]; exact hz)
      · refine .inr ?_
        rw [e]
        cases s with
        | true => exact hx0
        | false => exact hy0
      · cases ht
      · cases ht
def spOwned (A : Ad) : Sp := fun vs H Q _ => ∃ (B : TB) (s : Bool) (t : TO), vs = [.ref B.p, .int t.d.num, .str t.d.house] ∧ BCells A H B ∧ t ∈ B.os s ∧ (∀ r, ∀ u ∈ B.os r, u.d.num = t.d.num → u = t) ∧ ∀ H', Same H H' → Q (.ref t.a) H'
theorem ok_owned (T : Txt K mg A) : FnOk P w K mg base CX0 1 A.f_Bowned A.d_Bowned ["self", "number", "house"] (spOwned A) := by
  refine T.F_Bowned.ok sc_Bowned (fun vs H Q E h => ?_) (fun cdv Ar outer s H vs Q E hr h => ?_)
  · obtain ⟨_, _, _, rfl, _⟩ := h
    rfl
  · obtain ⟨B, s0, t, rfl, c, ht, huq, k⟩ := h
    refine ⟨_, pss_cons (ps_for PassesOwn.never rfl (pi_tup (pe_tup (pa_cons pe_str (pa_cons pe_str pa_nil)))) (pg_name (i := 3) sc_Bowned.nd rfl (Or.inl rfl))
      (pss_one (ps_for PassesOwn.never rfl (pi_list (pe_dget (hu_of hr) (pe_fld (pv 0) rfl) (pv 3) (fun _ _ => rfl))) (pg_name (i := 4) sc_Bowned.nd rfl (Or.inl rfl))
        (pss_one (ps_if (pt_cmpR op_eq (pe_fld (pv 4) rfl) (pv 1) (nomark _)) (pss_cons (ps_if (pt_cmpR op_ne (pe_fld (pv 4) rfl) (pv 2) (nomark _)) pss_never pss_nil) (pss_one (ps_ret (pv 4)))) pss_nil))))) pss_never, ?_⟩
    refine ⟨(by show 2 ≤ sizeLine; decide), fun q hq => ?_⟩
    have hS : Same H (upd H q (.tup [.str "buy", .str "sell"])) := Same.newH hq
    have c2 := c.sameH hS
    refine ⟨q, rfl, ⟨_, SqT.of upd_same⟩, for_tup (K := K) (a := q) (xs := [.str "buy", .str "sell"]) (fun i σ H' => ∃ v4 v5, σ = [some (.ref B.p), some (.int t.d.num), some (.str t.d.house), v4, v5] ∧ H' = upd H q (.tup [.str "buy", .str "sell"]) ∧ (i = 1 → t ∉ B.os true) ∧ (i = 2 → False))
      ⟨none, none, rfl, rfl, by simp, by simp⟩ (fun i σ H' _ ⟨_, _, _, e, _⟩ => by rw [e]; exact SqT.of upd_same) ?_ ?_⟩
    · rintro i x σ H' hi ⟨v4, v5, rfl, rfl, h1, h2⟩
      obtain ⟨b, rfl, hb⟩ : ∃ b, x = .str (sd b) ∧ (i = if b = true then 0 else 1) := by
        match i, hi with
        | 0, hi => exact ⟨true, (Option.some.inj hi).symm, rfl⟩
        | 1, hi => exact ⟨false, (Option.some.inj hi).symm, rfl⟩
        | i + 2, hi => simp at hi
      refine ⟨_, rfl, B.p, A.CB, B.dx, _, _, rfl, c2.ob, T.cB, T.nB_resting, bfs_resting _ _ _ _, _, rfl, B.rd, _, rfl, c2.get b, B.l b, rfl, ⟨_, SqL.of (c2.l b)⟩, for_list (K := K) (a := B.l b) (xs := (B.os b).map TO.ref)
        (fun j σ H' => ∃ v5, σ = [some (.ref B.p), some (.int t.d.num), some (.str t.d.house), some (.str (sd b)), v5] ∧ H' = upd H q (.tup [.str "buy", .str "sell"]) ∧ t ∉ (B.os b).take j) ⟨v5, rfl, rfl, by simp⟩ (fun j σ H' _ ⟨_, _, e, _⟩ => by rw [e]; exact SqL.of (c2.l b)) ?_ ?_⟩
      · rintro j x σ H' hj ⟨v5, rfl, rfl, hn⟩
        obtain ⟨u, hu, rfl⟩ := TO.ref_ix hj
        have hou := c2.o b u (List.mem_of_getElem? hu)
        refine ⟨_, rfl, u.a, A.CO, u.dx, _, _, rfl, hou, T.cO, T.nO_number, ofs_number _, _, rfl, rfl, _, rfl, ?_⟩
        rw [int_eq]
        by_cases hnum : u.d.num = t.d.num
        · have := huq b u (List.mem_of_getElem? hu) hnum
          subst this
          refine iteTe (decide_eq_true rfl) ?_
          refine ⟨_, rfl, u.a, A.CO, u.dx, _, _, rfl, hou, T.cO, T.nO_house, ofs_house _, _, rfl, rfl, _, rfl, iteFe (by rw [str_eq, decide_eq_true rfl]; rfl) ?_⟩
          exact ⟨_, rfl, k _ hS⟩
        · refine iteFe (decide_eq_false hnum) ?_
          refine ⟨_, rfl, rfl, ?_⟩
          rw [take_snoc hu]
          intro hm
          rcases List.mem_append.mp hm with hm | hm
          · exact hn hm
          · rw [List.mem_singleton] at hm
            exact hnum (by rw [hm])
      · rintro σ H' ⟨v5, rfl, rfl, hn⟩
        rw [List.length_map, List.take_length] at hn
        refine ⟨_, _, rfl, rfl, fun e => ?_, fun e => ?_⟩
        · cases b with
          | true => exact hn
          | false =>
            rw [hb] at e
            cases e
        · cases b with
          | true =>
            rw [hb] at e
            cases e
          | false =>
            have h3 := h1 hb
            cases s0 with
            | true => exact h3 ht
            | false => exact hn ht
    · rintro σ H' ⟨v4, v5, rfl, rfl, h1, h2⟩
      exact h2 rfl
def spRemove (A : Ad) : Sp := fun vs H Q _ => ∃ (B : TB) (t : TO), vs = [.ref B.p, .ref t.a] ∧ BCells A H B ∧ OAt A H t ∧ (B.os t.d.buy).length ≤ 10000 ∧
  ∀ k, H k = none → Q .non (upd (upd H k (.lst (((B.os t.d.buy).filter fun u => !decide (u.d.num = t.d.num)).map TO.ref))) B.rd (.dK (sides fun x => if x = t.d.buy then k else B.l x)))
theorem ok_remove (T : Txt K mg A) : FnOk P w K mg base CX0 1 A.f_Bremove A.d_Bremove ["self", "order"] (spRemove A) := by
  refine T.F_Bremove.ok sc_Bremove (fun vs H Q E h => ?_) (fun cdv Ar outer s H vs Q E hr h => ?_)
  · obtain ⟨_, _, rfl, _⟩ := h
    rfl
  · obtain ⟨B, t, rfl, c, ho, hlen, k⟩ := h
    refine ⟨_, pss_cons (ps_setLc (i := 2) (own := [("other", 3)]) (g := gName 3) (tt := tTest (tOp rNe (tFld K (tVar 3) "number") (tFld K (tVar 1) "number"))) (te := tVar 3) rfl sc_Bremove.nd rfl rfl (sw_true rfl rfl rfl (by decide +kernel)) (pi_list (pe_dget (hu_of hr) (pe_fld (pv 0) rfl) (pe_fld (pv 1) rfl) (fun _ _ => rfl)))
      (blkOk_by (N := ["self", "order", "kept", "other"]) (sc := defScope s_Bremove) (by decide +kernel)) (fun _ _ _ _ _ => pg_name (i := 3) sc_Bremove.nd rfl (Or.inl rfl)) (fun _ _ _ _ _ => pts_one (pt_cmpR op_ne (pe_fld (pv 3) rfl) (pe_fld (pv 1) rfl) (nomark _))) (fun _ _ _ _ _ => pv 3))
      (pss_one (ps_dput (hu_of hr) (pe_fld (pv 0) rfl) (pe_fld (pv 1) rfl) (pv 2) rfl)), ?_⟩
    have c1 := c
    refine ⟨_, rfl, B.p, A.CB, B.dx, _, _, rfl, c.ob, T.cB, T.nB_resting, bfs_resting _ _ _ _, _, rfl, t.a, A.CO, t.dx, _, _, rfl, ho, T.cO, T.nO_side, ofs_side _, B.rd, _, rfl, c.get _, B.l t.d.buy, rfl, ⟨_, SqL.of (c.l _)⟩, fun D hD => ?_⟩
    have cD : ∀ o, BCells A (upd H D o) B := fun o => c.sameH (Same.newH hD)
    have oD : ∀ o, OAt A (upd H D o) t := fun o => Same.newH hD _ _ ho
    refine lc_list (K := K) (a := B.l t.d.buy) (xs := (B.os t.d.buy).map TO.ref) (fun i H' => H' = upd H D (.lst ((((B.os t.d.buy).take i).filter fun u => !decide (u.d.num = t.d.num)).map TO.ref))) rfl (fun i H' _ e => by rw [e]; exact SqL.of ((cD _).l _)) ?_ ?_
    · rintro i x H' hi rfl
      obtain ⟨u, hu, rfl⟩ := TO.ref_ix hi
      have hou := (cD (.lst ((((B.os t.d.buy).take i).filter fun u => !decide (u.d.num = t.d.num)).map TO.ref))).o _ u (List.mem_of_getElem? hu)
      refine ⟨rfl, ?_⟩
      refine ⟨_, rfl, u.a, A.CO, u.dx, _, _, rfl, hou, T.cO, T.nO_number, ofs_number _, _, rfl, t.a, A.CO, t.dx, _, _, rfl, oD _, T.cO, T.nO_number, ofs_number _, rfl, _, rfl, ?_⟩
      rw [int_eq, take_snoc hu, List.filter_append, List.filter_cons]
      by_cases hn : u.d.num = t.d.num
      · rw [decide_eq_true hn]
        refine iteF ?_
        rw [if_neg (by simp), List.filter_nil, List.append_nil]
      · rw [decide_eq_false hn]
        refine iteT ?_
        refine ⟨_, rfl, _, upd_same, ?_, ?_⟩
        · rw [List.length_map]
          exact Nat.lt_of_le_of_lt (Nat.le_trans (List.length_filter_le _ _) (by rw [List.length_take]; exact Nat.le_trans (Nat.min_le_right _ _) hlen)) (show 10000 < sizeLine by decide)
        · rw [upd_upd, if_pos (by simp), List.filter_nil, List.map_append]
          rfl
    · rintro H' rfl
      rw [List.length_map, List.take_length]
      refine ⟨_, rfl, _, rfl, B.p, A.CB, B.dx, _, _, rfl, (cD _).ob, T.cB, T.nB_resting, bfs_resting _ _ _ _, _, rfl, t.a, A.CO, t.dx, _, _, rfl, oD _, T.cO, T.nO_side, ofs_side _, B.rd, _, rfl, .inl ⟨_, .inr _, (cD _).rd, rfl, (by show 2 < sizeLine; decide), rfl⟩, ?_⟩
      show Q V.non (upd _ _ (HO.dK (putK (sides B.l) (Sum.inr (sd t.d.buy)) (V.ref D))))
      rw [sides_put]
      exact k D hD
def spInsert (A : Ad) : Sp := fun vs H Q _ => ∃ (B : TB) (t : TO), vs = [.ref B.p, .ref t.a] ∧ BCells A H B ∧ OAt A H t ∧ t.d.price = some t.d.pr ∧ (∀ u ∈ B.os t.d.buy, u.d.price = some u.d.pr) ∧ (B.os t.d.buy).length ≤ 10000 ∧
  Q .non (upd H (B.l t.d.buy) (.lst ((insG TO.d t (B.os t.d.buy)).map TO.ref)))
theorem ok_insert (T : Txt K mg A) : FnOk P w K mg base CX0 2 A.f_Binsert A.d_Binsert ["self", "order"] (spInsert A) := by
  refine T.F_Binsert.ok sc_Binsert (fun vs H Q E h => ?_) (fun cdv Ar outer s H vs Q E hr h => ?_)
  · obtain ⟨_, _, rfl, _⟩ := h
    rfl
  · obtain ⟨B, t, rfl, c, ho, hpr, hps, hlen, k⟩ := h
    have IB := ok_is_better (P := P) (w := w) (base := base) T
    refine ⟨_, pss_cons (ps_set (i := 2) sc_Binsert.nd rfl (Or.inl rfl) (pe_dget (hu_of hr) (pe_fld (pv 0) rfl) (pe_fld (pv 1) rfl) (fun _ _ => rfl)))
      (pss_cons (ps_set (i := 3) sc_Binsert.nd rfl (Or.inl rfl) pe_int)
      (pss_cons (ps_while PassesOwn.never (PW.pt (pw_and (pt_cmpR op_lt (pv 3) (pe_callB call_len_seq (by rfl) T.z_len PySem.boot_len (pa_cons (pv 2) pa_nil)) (nomark _))
          (pw_and1 (pt_not (pt_val (pe_call IB hr (by rfl) T.g_is_better T.F_is_better.kp T.b_is_better .nil pass0 (pa_cons (pe_fld (pv 1) rfl) (pa_cons (pe_fld (pv 1) rfl) (pa_cons (pe_fld (pe_ix ix_list (pv 2) (pv 3) (fun _ _ => rfl)) rfl) pa_nil)))))))))
        (pss_one (ps_set (i := 3) sc_Binsert.nd rfl (Or.inl rfl) (pe_op op_add (pv 3) pe_int))))
      (pss_one (ps_expr (pe_bm PySem.F.plainAttrs_list PySem.F.slot_list_insert PySem.F.type_list_insert mt_insert (pv 2) (pa_cons (pv 3) (pa_cons (pv 1) pa_nil))))))), ?_⟩
    refine ⟨_, rfl, B.p, A.CB, B.dx, _, _, rfl, c.ob, T.cB, T.nB_resting, bfs_resting _ _ _ _, _, rfl, t.a, A.CO, t.dx, _, _, rfl, ho, T.cO, T.nO_side, ofs_side _, B.rd, _, rfl, c.get _, ?_⟩
    have hl := c.l t.d.buy
    have hlen2 : ((B.os t.d.buy).map TO.ref).length = (B.os t.d.buy).length := List.length_map ..
    refine ⟨fun m σ H' => ∃ i : Nat, σ = [some (.ref B.p), some (.ref t.a), some (.ref (B.l t.d.buy)), some (.int i)] ∧ H' = H ∧ m = (B.os t.d.buy).length - i ∧ i ≤ (B.os t.d.buy).length ∧ ∀ j r, j < i → (B.os t.d.buy)[j]? = some r → better t.d.buy t.d.pr r.d.pr = false,
      ⟨_, 0, rfl, rfl, rfl, Nat.zero_le _, fun j r hj => absurd hj (Nat.not_lt_zero _)⟩, ?_⟩
    rintro m σ H' ⟨i, rfl, rfl, rfl, hi, hb⟩
    have fin : (∀ r, (B.os t.d.buy)[i]? = some r → better t.d.buy t.d.pr r.d.pr = true) → Q .non (upd H' (B.l t.d.buy) (.lst (((B.os t.d.buy).map TO.ref).take (Int.toNat i) ++ [.ref t.a] ++ ((B.os t.d.buy).map TO.ref).drop (Int.toNat i)))) := fun h => by
      have e := insG_at TO.d t (B.os t.d.buy) i hi hb h
      rw [e, List.map_append, List.map_append, List.map_take, List.map_drop] at k
      exact k
    have ins : ∀ (h : ∀ r, (B.os t.d.buy)[i]? = some r → better t.d.buy t.d.pr r.d.pr = true), tyV K "list" (.ref (B.l t.d.buy)) H' := fun h => Or.inl ⟨rfl, _, SqL.of hl⟩
    refine ⟨_, rfl, _, rfl, _, _, rfl, .inl (SqL.of hl), _, _, rfl, rfl, _, rfl, ?_⟩
    rw [hlen2]
    by_cases hlt : i < (B.os t.d.buy).length
    · refine iteTe (decide_eq_true (by omega)) ?_
      obtain ⟨r, hr'⟩ : ∃ r, (B.os t.d.buy)[i]? = some r := ⟨_, List.getElem?_eq_getElem hlt⟩
      have hor := c.o _ r (List.mem_of_getElem? hr')
      refine ⟨_, rfl, t.a, A.CO, t.dx, _, _, rfl, ho, T.cO, T.nO_side, ofs_side _, _, rfl, t.a, A.CO, t.dx, _, _, rfl, ho, T.cO, T.nO_price, ofs_price _, _, rfl, _, rfl, _, _, _, _, rfl, rfl, SqL.of hl, atI_nat (by rw [List.getElem?_map, hr'] <;> rfl), r.a, A.CO, r.dx, _, _, rfl, hor, T.cO, T.nO_price, ofs_price _, ?_⟩
      refine ⟨t.d.buy, t.d.pr, r.d.pr, ?_, _, rfl, ?_⟩
      · show [V.str (sd t.d.buy), pV t.d.price, pV r.d.price] = _
        rw [hpr, hps r (List.mem_of_getElem? hr')]
        rfl
      · cases hbt : better t.d.buy t.d.pr r.d.pr with
        | true =>
          refine iteF ?_
          have hf := fin fun r' e => by
            rw [hr'] at e
            cases e
            exact hbt
          exact ⟨_, rfl, .inl ⟨rfl, _, SqL.of hl⟩, _, rfl, _, rfl, _, _, _, _, rfl, rfl, hl, by rw [hlen2]; exact Nat.lt_of_le_of_lt hlen (by decide), by omega, by omega, hf⟩
        | false =>
          refine iteT ?_
          refine ⟨fun σ' H'' => ∃ m', m' < (B.os t.d.buy).length - i ∧ ∃ i' : Nat, σ' = [some (.ref B.p), some (.ref t.a), some (.ref (B.l t.d.buy)), some (.int i')] ∧ H'' = H' ∧ m' = (B.os t.d.buy).length - i' ∧ i' ≤ (B.os t.d.buy).length ∧ ∀ j r, j < i' → (B.os t.d.buy)[j]? = some r → better t.d.buy t.d.pr r.d.pr = false, fun _ _ h => h, ?_⟩
          refine ⟨_, rfl, _, _, rfl, rfl, _, (by omega), i + 1, rfl, rfl, rfl, hlt, fun j r' hj e => ?_⟩
          by_cases hji : j < i
          · exact hb j r' hji e
          · have : j = i := by omega
            subst this
            rw [hr'] at e
            cases e
            exact hbt
    · refine iteFe (decide_eq_false (by omega)) ?_
      refine iteF ?_
      have hf := fin fun r' e => by
        rw [List.getElem?_eq_none (by omega)] at e
        cases e
      exact ⟨_, rfl, .inl ⟨rfl, _, SqL.of hl⟩, _, rfl, _, rfl, _, _, _, _, rfl, rfl, hl, by rw [hlen2]; exact Nat.lt_of_le_of_lt hlen (by decide), by omega, by omega, hf⟩
end
end K29
end

section
set_option Elab.async false
set_option maxRecDepth 100000
set_option maxHeartbeats 4000000
set_option linter.unusedVariables false
/-! Book: _settle_first, _match -/
namespace K29
open PySem L2
theorem setL_setL {B : TB} {s : Bool} {L L2 : List TO} : (B.setL s L).setL s L2 = B.setL s L2 := by
  unfold TB.setL
  congr 1
  funext x
  show (if x = s then L2 else if x = s then L else B.os x) = if x = s then L2 else B.os x
  split <;> rfl
theorem setL_foot {B : TB} {s : Bool} {L : List TO} (h : ∀ u ∈ L, B.foot u.a) {a : Addr} (ha : (B.setL s L).foot a) : B.foot a := by
  rcases ha with e | e | e | e | ⟨r, t, ht, e⟩ | e
  · exact .inl e
  · exact .inr (.inl e)
  · exact .inr (.inr (.inl e))
  · exact .inr (.inr (.inr (.inl e)))
  · by_cases hr : r = s
    · rw [hr, setL_same] at ht
      rw [e]
      exact h t ht
    · rw [setL_ne hr] at ht
      rw [e]
      exact TB.foot_o ht
  · exact .inr (.inr (.inr (.inr (.inr e))))
theorem seq0 {n : Nat} (h : 0 < n) : seqIndex? 0 n = some 0 := by
  unfold seqIndex?
  simp
  omega
def frow (f : Fl) : List V := [.int f.num, .str f.house, .int f.price, .int f.qty]
section
variable {P : Program} {w : World} {K : PySem.W.Frag} {mg : Str → Option Value} {base : Heap} {A : Ad}
def spSettle (A : Ad) : Sp := fun vs H Q _ => ∃ (F : Hp) (B : TB) (s : Bool) (t : TO) (L : List TO), vs = [.ref B.p, .ref (B.l s), .ref t.a] ∧ BookAt A F H B ∧ B.os s = t :: L ∧ t.d.buy = s ∧ t.d.price = some t.d.pr ∧ (∀ u ∈ L, u.d.price = some u.d.pr) ∧ L.length ≤ 1000 ∧
  ∀ H' L', BookAt A F H' (B.setL s L') → L'.map (·.d) = back t.d (L.map (·.d)) → (∀ a, a ≠ B.l s → a ≠ t.a → H' a = H a) → (∀ u ∈ L', B.foot u.a) → Q .non H'
theorem ok_settle (T : Txt K mg A) : FnOk P w K mg base CX0 3 A.f_Bsettle_first A.d_Bsettle_first ["self", "resting", "first"] (spSettle A) := by
  refine T.F_Bsettle_first.ok sc_Bsettle_first (fun vs H Q E h => ?_) (fun cdv Ar outer s H vs Q E hr h => ?_)
  · obtain ⟨_, _, _, _, _, rfl, _⟩ := h
    rfl
  · obtain ⟨F, B, sb, t, L, rfl, b, eL, hbuy, hpr, hps, hlen, k⟩ := h
    have c := b.c
    have ht : t ∈ B.os sb := by rw [eL]; exact List.mem_cons_self
    have ho := c.o sb t ht
    have hl := c.l sb
    have htl : t.a ≠ B.l sb := OAt.l ho hl
    rw [eL, List.map_cons] at hl
    refine ⟨_, pss_one (ps_if (pt_cmpR op_eq (pe_fld (pv 2) rfl) pe_int (nomark _)) (pss_one (ps_expr (pe_bm PySem.F.plainAttrs_list PySem.F.slot_list_pop PySem.F.type_list_pop mt_popAt (pv 1) (pa_cons pe_int pa_nil))))
      (pss_one (ps_if (pt_cmpR op_eq (pe_fld (pv 2) rfl) pe_int (nomark _)) (pss_cons (ps_expr (pe_bm PySem.F.plainAttrs_list PySem.F.slot_list_pop PySem.F.type_list_pop mt_popAt (pv 1) (pa_cons pe_int pa_nil)))
        (pss_cons (ps_expr (pe_meth0 (pv 2) T.cO T.h_Oshow_next_part (ok_show T) (hr.mono (by decide)) T.b_Oshow_next_part .nil pass0)) (pss_one (ps_expr (pe_meth (pv 0) T.cB T.h_Binsert (ok_insert T) hr T.b_Binsert .nil pass0 (pa_cons (pv 2) pa_nil)))))) pss_nil))), ?_⟩
    have subL : L.Sublist (B.os sb) := by rw [eL]; exact List.sublist_cons_self _ _
    have bL := b.sub subL
    refine ⟨_, rfl, t.a, A.CO, t.dx, _, _, rfl, ho, T.cO, T.nO_left, ofs_left _, rfl, _, rfl, ?_⟩
    rw [int_eq]
    by_cases h0 : t.d.left = 0
    · refine iteTe (decide_eq_true h0) ?_
      refine ⟨_, rfl, .inl ⟨rfl, _, SqL.of hl⟩, B.l sb, _, _, 0, _, rfl, rfl, hl, by decide, by decide, seq0 (by simp), rfl, ?_⟩
      refine k _ L bL ?_ (fun a h1 h2 => upd_ne h1) (fun u hu => TB.foot_o (subL.subset hu))
      unfold back
      rw [if_pos h0]
    · refine iteFe (decide_eq_false h0) ?_
      refine ⟨_, rfl, t.a, A.CO, t.dx, _, _, rfl, ho, T.cO, T.nO_visible, ofs_visible _, rfl, _, rfl, ?_⟩
      rw [int_eq]
      by_cases hv : t.d.vis = 0
      · refine iteTe (decide_eq_true hv) ?_
        refine ⟨_, rfl, .inl ⟨rfl, _, SqL.of hl⟩, B.l sb, _, _, 0, _, rfl, rfl, hl, by decide, by decide, seq0 (by simp), rfl, ?_⟩
        show tSeq _ _ _ _ (upd H (B.l sb) (.lst (L.map TO.ref)))
        have ho1 : OAt A (upd H (B.l sb) (.lst (L.map TO.ref))) t := (upd_ne htl).trans ho
        have nf : ¬ (B.setL sb L).foot t.a := by
          refine OAt.foot bL.c ho1 fun r u hu => ?_
          by_cases hrs : r = sb
          · rw [hrs, setL_same] at hu
            have nd := c.nd sb
            rw [eL, List.map_cons, List.nodup_cons] at nd
            exact fun e => nd.1 (List.mem_map.mpr ⟨u, hu, e⟩)
          · rw [setL_ne hrs] at hu
            rw [bool_ne hrs] at hu
            exact (c.other ht hu).symm
        have hF : F t.a = none := b.out _ (TB.foot_o ht)
        refine ⟨_, rfl, t.a, t.dx, _, rfl, ho1, ofs_no_show_next_part _, t, rfl, ho1, ?_⟩
        have b2 : BookAt A F (upd (upd H (B.l sb) (.lst (L.map TO.ref))) t.a (.ins A.CO t.dx (ofs t.d.show))) (B.setL sb L) := bL.up nf hF
        have ho2 : OAt A (upd (upd H (B.l sb) (.lst (L.map TO.ref))) t.a (.ins A.CO t.dx (ofs t.d.show))) { t with d := t.d.show } := upd_same
        have eb : ({ t with d := t.d.show } : TO).d.buy = sb := hbuy
        refine ⟨_, rfl, B.p, B.dx, _, rfl, b2.c.ob, bfs_no_insert _ _ _ _, _, rfl, B.setL sb L, { t with d := t.d.show }, rfl, b2.c, ho2, hpr, ?_, ?_, ?_⟩
        · rw [eb, setL_same]
          exact hps
        · rw [eb, setL_same]
          exact Nat.le_trans hlen (by decide)
        · rw [eb, setL_same]
          have b3 := b2.insO (s := sb) (t := { t with d := t.d.show }) (L := insG TO.d { t with d := t.d.show } L) (by rw [setL_same]; exact insG_perm _ _ _) ho2 nf hF
          rw [setL_setL] at b3
          refine k _ _ b3 ?_ (fun a h1 h2 => ?_) (fun u hu => ?_)
          · rw [insG_map]
            unfold back
            rw [if_neg h0, if_pos hv]
          · show upd _ (B.l sb) _ a = _
            rw [upd_ne h1, upd_ne h2, upd_ne h1]
          · rcases List.mem_cons.mp ((insG_perm TO.d { t with d := t.d.show } L).mem_iff.mp hu) with e | hu
            · rw [e]
              show B.foot t.a
              exact TB.foot_o ht
            · exact TB.foot_o (subL.subset hu)
      · refine iteFe (decide_eq_false hv) ?_
        have e : B.setL sb (t :: L) = B := by
          unfold TB.setL
          rw [← eL]
          have : (fun x => if x = sb then B.os sb else B.os x) = B.os := by
            funext x
            split
            · rename_i h
              rw [h]
            · rfl
          rw [this]
        refine k _ (t :: L) (by rw [e]; exact b) ?_ (fun a _ _ => rfl) (fun u hu => TB.foot_o (by rw [eL]; exact hu))
        unfold back
        rw [if_neg h0, if_neg hv]
        rfl

/-- the state of a match at a turn -/
structure MSt (A : Ad) (F0 : Hp) (B : TB) (t : TO) (fl rm : Addr) (s0 : MS) (F H : Hp) (L : List TO) (m : MS) (fs : List (Addr × Fl)) : Prop where
  same : Same F0 F
  book : BookAt A F H (B.setL (!t.d.buy) L)
  eL : L.map (·.d) = m.L
  ord : OAt A H { t with d := { t.d with left := m.left } }
  hfl : H fl = some (.lst (fs.map fun x => .ref x.1))
  fsF : ∀ x ∈ fs, F x.1 = some (.tup (frow x.2))
  fsN : ∀ x ∈ fs, F0 x.1 = none
  fsm : fs.map (·.2) = m.fills
  hrm : H rm = some (.lst (m.rem.map V.int))
  Ft : F t.a = none
  Ffl : F fl = none
  Frm : F rm = none
  sub : ∀ u ∈ L, B.foot u.a
  ok : MOk (!t.d.buy) m
  run : ∀ z, MRun t.d.buy t.d.house t.d.price m z → MRun t.d.buy t.d.house t.d.price s0 z
  bnd : meas m + m.fills.length + m.rem.length ≤ 2000
  len : L.length ≤ 1000
def spMatch (A : Ad) : Sp := fun vs H Q _ => ∃ (F : Hp) (B : TB) (t : TO) (fl rm : Addr), vs = [.ref B.p, .ref t.a, .ref fl, .ref rm] ∧ BookAt A F H B ∧ OAt A H t ∧ H fl = some (.lst []) ∧ H rm = some (.lst []) ∧ F t.a = none ∧ F fl = none ∧ F rm = none ∧
  ¬ B.foot t.a ∧ ¬ B.foot fl ∧ ¬ B.foot rm ∧ fl ≠ rm ∧ MOk (!t.d.buy) ⟨(B.os (!t.d.buy)).map (·.d), t.d.left, [], []⟩ ∧ (B.os (!t.d.buy)).length ≤ 1000 ∧ t.d.left ≤ 1000 ∧
  ∀ F' H' L' m fs, MRun t.d.buy t.d.house t.d.price ⟨(B.os (!t.d.buy)).map (·.d), t.d.left, [], []⟩ m → MSt A F B t fl rm ⟨(B.os (!t.d.buy)).map (·.d), t.d.left, [], []⟩ F' H' L' m fs → Q .non H'
theorem setL_id {B : TB} {s : Bool} : B.setL s (B.os s) = B := by
  unfold TB.setL
  have : (fun x => if x = s then B.os s else B.os x) = B.os := by
    funext x
    split
    · rename_i h
      rw [h]
    · rfl
  rw [this]
theorem BookAt.foot_ne {B : TB} {s : Bool} {a : Addr} (h : ¬ B.foot a) : a ≠ B.l s := fun e => h (by rw [e]; exact B.foot_l s)
theorem MSt.nfoot {F0 F H : Hp} {B : TB} {t : TO} {fl rm : Addr} {s0 m : MS} {L : List TO} {fs : List (Addr × Fl)} (S : MSt A F0 B t fl rm s0 F H L m fs) {a : Addr} (h : ¬ B.foot a) : ¬ (B.setL (!t.d.buy) L).foot a := fun q => h (setL_foot S.sub q)
theorem MSt.tl {F0 F H : Hp} {B : TB} {t : TO} {fl rm a : Addr} {s0 m : MS} {L : List TO} {fs : List (Addr × Fl)} {xs : List V} (S : MSt A F0 B t fl rm s0 F H L m fs) (h : H a = some (.lst xs)) : t.a ≠ a := OAt.l (t := { t with d := { t.d with left := m.left } }) S.ord h
theorem MSt.len_ok {F0 F H : Hp} {B : TB} {t : TO} {fl rm : Addr} {s0 m : MS} {L : List TO} {fs : List (Addr × Fl)} (S : MSt A F0 B t fl rm s0 F H L m fs) : m.rem.length < sizeLine ∧ fs.length < sizeLine := by
  have h := S.bnd
  have e : fs.length = m.fills.length := by rw [← S.fsm, List.length_map]
  have l : 2000 < sizeLine := by decide
  omega
theorem MSt.own {F0 F H : Hp} {B : TB} {t f : TO} {fl rm : Addr} {s0 m : MS} {L2 : List TO} {fs : List (Addr × Fl)} (S : MSt A F0 B t fl rm s0 F H (f :: L2) m fs) (nm : ¬ mdone t.d.buy t.d.price m) (hh : f.d.house = t.d.house)
    (nt : ¬ B.foot t.a) (nfl : ¬ B.foot fl) (nrm : ¬ B.foot rm) (flrm : fl ≠ rm) :
    MSt A F0 B t fl rm s0 F (upd (upd H rm (.lst (m.rem.map V.int ++ [.int f.d.num]))) (B.l (!t.d.buy)) (.lst (L2.map TO.ref))) L2 (mstep t.d.house m) fs ∧ meas (mstep t.d.house m) < meas m := by
  obtain ⟨mL, left, fills, rem⟩ := m
  obtain rfl : f.d :: L2.map (·.d) = mL := S.eL
  have ms := mstep_ok (h := t.d.house) nm S.ok
  have e : mstep t.d.house ⟨f.d :: L2.map (·.d), left, fills, rem⟩ = ⟨L2.map (·.d), left, fills, rem ++ [f.d.num]⟩ := by
    rw [mstep_cons, if_pos hh]
  rw [e] at ms ⊢
  have b1 : BookAt A F (upd H rm (.lst (rem.map V.int ++ [.int f.d.num]))) (B.setL (!t.d.buy) (f :: L2)) := S.book.up (S.nfoot nrm) S.Frm
  have b2 := b1.sub (s := !t.d.buy) (L := L2) (by rw [setL_same]; exact List.sublist_cons_self _ _)
  rw [setL_setL] at b2
  have hne : t.a ≠ rm := S.tl S.hrm
  have e1 : ∀ a, a ≠ rm → a ≠ B.l (!t.d.buy) → upd (upd H rm (.lst (rem.map V.int ++ [.int f.d.num]))) (B.l (!t.d.buy)) (.lst (L2.map TO.ref)) a = H a := fun a h1 h2 => by rw [upd_ne h2, upd_ne h1]
  have h5 := ms.2.2.2.2
  refine ⟨⟨S.same, b2, rfl, (e1 _ hne (BookAt.foot_ne nt)).trans S.ord, (e1 _ flrm (BookAt.foot_ne nfl)).trans S.hfl, S.fsF, S.fsN, S.fsm, ?_, S.Ft, S.Ffl, S.Frm, fun u hu => S.sub u (List.mem_cons_of_mem _ hu), ms.1, fun z hz => S.run z (.step nm (by rw [e]; exact hz)), ?_, Nat.le_trans (Nat.le_succ _) S.len⟩, ms.2.1⟩
  · rw [upd_ne (BookAt.foot_ne nrm), upd_same, List.map_append]
    rfl
  · have h1 := S.bnd
    have h2 := ms.2.1
    simp only at h1 h5 ⊢
    omega
/-- behind the trade, ahead of what becomes of the first one -/
theorem MSt.trade {F0 F H : Hp} {B : TB} {t f : TO} {fl rm p : Addr} {s0 m : MS} {L2 : List TO} {fs : List (Addr × Fl)} {q : Int} {row : List V} (S : MSt A F0 B t fl rm s0 F H (f :: L2) m fs)
    (nt : ¬ B.foot t.a) (nfl : ¬ B.foot fl) (hp : H p = none) {od : Od} {xs : List V} :
    BookAt A (upd F p (.tup row)) (upd (upd (upd (upd H p (.tup row)) fl (.lst xs)) t.a (.ins A.CO t.dx (ofs od))) f.a (.ins A.CO f.dx (ofs (hit f.d q)))) (B.setL (!t.d.buy) ({ f with d := hit f.d q } :: L2)) := by
  have fp : fl ≠ p := ne_of_none S.hfl hp
  have tp : t.a ≠ p := ne_of_none S.ord hp
  have b1 : BookAt A (upd F p (.tup row)) (upd H p (.tup row)) (B.setL (!t.d.buy) (f :: L2)) := (S.book.new hp).frz upd_same (S.book.c.free hp)
  have b2 : BookAt A (upd F p (.tup row)) (upd (upd H p (.tup row)) fl (.lst xs)) (B.setL (!t.d.buy) (f :: L2)) := b1.up (S.nfoot nfl) (by rw [upd_ne fp]; exact S.Ffl)
  have b3 : BookAt A (upd F p (.tup row)) (upd (upd (upd H p (.tup row)) fl (.lst xs)) t.a (.ins A.CO t.dx (ofs od))) (B.setL (!t.d.buy) (f :: L2)) := b2.up (S.nfoot nt) (by rw [upd_ne tp]; exact S.Ft)
  have b4 := b3.setO (s := !t.d.buy) (L1 := []) (L2 := L2) (t := f) (by rw [setL_same]; rfl) (hit f.d q)
  rw [setL_setL] at b4
  exact b4
theorem MSt.fin {F0 F H H' : Hp} {B : TB} {t f : TO} {fl rm p : Addr} {s0 m : MS} {L2 L' : List TO} {fs : List (Addr × Fl)} (S : MSt A F0 B t fl rm s0 F H (f :: L2) m fs) (nm : ¬ mdone t.d.buy t.d.price m) (hh : ¬ f.d.house = t.d.house)
    (nt : ¬ B.foot t.a) (nfl : ¬ B.foot fl) (nrm : ¬ B.foot rm) (flrm : fl ≠ rm) (hp : H p = none)
    (b : BookAt A (upd F p (.tup (frow ⟨f.d.num, f.d.house, f.d.pr, minI m.left f.d.vis⟩))) H' (B.setL (!t.d.buy) L')) (eL : L'.map (·.d) = back (hit f.d (minI m.left f.d.vis)) (L2.map (·.d))) (hsub : ∀ u ∈ L', B.foot u.a)
    (keep : ∀ a, a ≠ B.l (!t.d.buy) → a ≠ f.a → H' a = upd (upd (upd H p (.tup (frow ⟨f.d.num, f.d.house, f.d.pr, minI m.left f.d.vis⟩))) fl (.lst ((fs.map fun x => .ref x.1) ++ [.ref p]))) t.a (.ins A.CO t.dx (ofs { t.d with left := m.left - minI m.left f.d.vis })) a) :
    MSt A F0 B t fl rm s0 (upd F p (.tup (frow ⟨f.d.num, f.d.house, f.d.pr, minI m.left f.d.vis⟩))) H' L' (mstep t.d.house m) (fs ++ [(p, ⟨f.d.num, f.d.house, f.d.pr, minI m.left f.d.vis⟩)]) ∧ meas (mstep t.d.house m) < meas m := by
  obtain ⟨mL, left, fills, rem⟩ := m
  obtain rfl : f.d :: L2.map (·.d) = mL := S.eL
  have ms := mstep_ok (h := t.d.house) nm S.ok
  have e : mstep t.d.house ⟨f.d :: L2.map (·.d), left, fills, rem⟩ = ⟨back (hit f.d (minI left f.d.vis)) (L2.map (·.d)), left - minI left f.d.vis, fills ++ [⟨f.d.num, f.d.house, f.d.pr, minI left f.d.vis⟩], rem⟩ := by
    rw [mstep_cons, if_neg hh]
  rw [e] at ms ⊢
  simp only at b eL keep
  have ff : B.foot f.a := S.sub f List.mem_cons_self
  have fp : fl ≠ p := ne_of_none S.hfl hp
  have rp : rm ≠ p := ne_of_none S.hrm hp
  have tp : t.a ≠ p := ne_of_none S.ord hp
  have tfl : t.a ≠ fl := S.tl S.hfl
  have trm : t.a ≠ rm := S.tl S.hrm
  have nf : ∀ {a : Addr}, ¬ B.foot a → a ≠ f.a := fun h e => h (by rw [e]; exact ff)
  have old : ∀ x ∈ fs, x.1 ≠ p := fun x hx => ne_of_none (S.book.same _ _ (S.fsF x hx)) hp
  have h5 := ms.2.2.2.2
  refine ⟨⟨fun a o h => ?_, b, eL, ?_, ?_, fun x hx => ?_, fun x hx => ?_, ?_, ?_, ?_, ?_, ?_, hsub, ms.1, fun z hz => S.run z (.step nm (by rw [e]; exact hz)), ?_, ?_⟩, ms.2.1⟩
  · have h1 := S.same a o h
    rw [upd_ne (ne_of_none (S.book.same a o h1) hp)]
    exact h1
  · show H' t.a = _
    rw [keep _ (BookAt.foot_ne nt) (nf nt), upd_same]
  · rw [keep _ (BookAt.foot_ne nfl) (nf nfl), upd_ne tfl.symm, upd_same, List.map_append]
    rfl
  · rcases List.mem_append.mp hx with hx | hx
    · rw [upd_ne (old x hx)]
      exact S.fsF x hx
    · rw [List.mem_singleton.mp hx]
      exact upd_same
  · rcases List.mem_append.mp hx with hx | hx
    · exact S.fsN x hx
    · rw [List.mem_singleton.mp hx]
      exact S.same.free (S.book.same.free hp)
  · rw [List.map_append, S.fsm]
    rfl
  · rw [keep _ (BookAt.foot_ne nrm) (nf nrm), upd_ne trm.symm, upd_ne flrm.symm, upd_ne rp]
    exact S.hrm
  · rw [upd_ne tp]
    exact S.Ft
  · rw [upd_ne fp]
    exact S.Ffl
  · rw [upd_ne rp]
    exact S.Frm
  · have h1 := S.bnd
    have h2 := ms.2.1
    simp only at h1 h5 ⊢
    omega
  · have h1 : L'.length = (back (hit f.d (minI left f.d.vis)) (L2.map (·.d))).length := by rw [← eL, List.length_map]
    have h2 := back_len (hit f.d (minI left f.d.vis)) (L2.map (·.d))
    rw [List.length_map] at h2
    have h3 := S.len
    rw [List.length_cons] at h3
    omega
def MW (A : Ad) (F : Hp) (B : TB) (t : TO) (fl rm : Addr) (s0 : MS) : Nat → L2.St → Hp → Prop := fun n σ H' => ∃ F' L' m fs v5 v6, σ = [some (.ref B.p), some (.ref t.a), some (.ref fl), some (.ref rm), some (.ref (B.l (!t.d.buy))), v5, v6] ∧ n = meas m ∧ MSt A F B t fl rm s0 F' H' L' m fs
theorem ok_match (T : Txt K mg A) : FnOk P w K mg base CX0 4 A.f_Bmatch A.d_Bmatch ["self", "order", "fills", "removed"] (spMatch A) := by
  refine T.F_Bmatch.ok sc_Bmatch (fun vs H Q E h => ?_) (fun cdv Ar outer s H vs Q E hr h => ?_)
  · obtain ⟨_, _, _, _, _, rfl, _⟩ := h
    rfl
  · obtain ⟨F, B, t, fl, rm, rfl, b, ho, hfl, hrm, Ft, Ffl, Frm, nt, nfl, nrm, flrm, ok0, hlen, hleft, k⟩ := h
    refine ⟨_, (pss_cons (ps_set (i := 4) sc_Bmatch.nd rfl (Or.inl rfl) (pe_dget (hu_of hr) (pe_fld (pv 0) rfl) (pe_call (ok_other_side T) (hr.mono (by decide)) (by rfl) T.g_other_side T.F_other_side.kp T.b_other_side .nil pass0 (pa_cons (pe_fld (pv 1) rfl) pa_nil)) (fun _ _ => rfl)))
      (pss_one (ps_while PassesOwn.never (PW.pt (pw_and (pt_cmpR op_gt (pe_fld (pv 1) rfl) pe_int (nomark _)) (pw_and1 (pt_truth (pv 4) (by intro _; rfl))))) (pss_cons (ps_set (i := 5) sc_Bmatch.nd rfl (Or.inl rfl) (pe_ix ix_list (pv 4) pe_int (fun _ _ => rfl)))
      (pss_cons (ps_if (pt_not (pt_val (pe_call (ok_accepts T) (hr.mono (by decide)) (by rfl) T.g_accepts T.F_accepts.kp T.b_accepts .nil pass0 (pa_cons (pe_fld (pv 1) rfl) (pa_cons (pe_fld (pv 1) rfl) (pa_cons (pe_fld (pv 5) rfl) pa_nil)))))) (pss_one ps_retN) pss_nil)
      (pss_one (ps_if (pt_cmpR op_eq (pe_fld (pv 5) rfl) (pe_fld (pv 1) rfl) (nomark _)) (pss_cons (ps_expr (pe_bm PySem.F.plainAttrs_list PySem.F.slot_list_append PySem.F.type_list_append mt_append (pv 3) (pa_cons (pe_fld (pv 5) rfl) pa_nil)))
      (pss_one (ps_expr (pe_bm PySem.F.plainAttrs_list PySem.F.slot_list_pop PySem.F.type_list_pop mt_popAt (pv 4) (pa_cons pe_int pa_nil))))) (pss_cons (ps_set (i := 6) sc_Bmatch.nd rfl (Or.inl rfl) (pe_callB (call_min2 rfl) (by rfl) T.z_min PyProof.Rows.boot_min (pa_cons (pe_fld (pv 1) rfl) (pa_cons (pe_fld (pv 5) rfl) pa_nil))))
      (pss_cons (ps_expr (pe_bm PySem.F.plainAttrs_list PySem.F.slot_list_append PySem.F.type_list_append mt_append (pv 2) (pa_cons (pe_tup (pa_cons (pe_fld (pv 5) rfl) (pa_cons (pe_fld (pv 5) rfl) (pa_cons (pe_fld (pv 5) rfl) (pa_cons (pv 6) pa_nil))))) pa_nil)))
      (pss_cons (ps_fld (pv 1) (pe_op op_sub (pe_fld (pv 1) rfl) (pv 6)) rfl)
      (pss_cons (ps_expr (pe_meth (pv 5) T.cO T.h_Otake (ok_take T) (hr.mono (by decide)) T.b_Otake .nil pass0 (pa_cons (pv 6) pa_nil)))
      (pss_one (ps_expr (pe_meth (pv 0) T.cB T.h_Bsettle_first (ok_settle T) (hr.mono (by decide)) T.b_Bsettle_first .nil pass0 (pa_cons (pv 4) (pa_cons (pv 5) pa_nil)))))))))))))))), ?_⟩
    refine ⟨_, rfl, B.p, A.CB, B.dx, _, _, rfl, b.c.ob, T.cB, T.nB_resting, bfs_resting _ _ _ _, _, rfl, t.a, A.CO, t.dx, _, _, rfl, ho, T.cO, T.nO_side, ofs_side _, t.d.buy, rfl, B.rd, _, rfl, b.c.get _, ?_⟩
    have st0 : MSt A F B t fl rm ⟨(B.os (!t.d.buy)).map (·.d), t.d.left, [], []⟩ F H (B.os (!t.d.buy)) ⟨(B.os (!t.d.buy)).map (·.d), t.d.left, [], []⟩ [] :=
      ⟨Same.refl F, by rw [setL_id]; exact b, rfl, ho, hfl, fun x hx => (nomatch hx), fun x hx => (nomatch hx), rfl, hrm, Ft, Ffl, Frm, fun u hu => TB.foot_o hu, ok0, fun _ z => z, by
        show ((B.os (!t.d.buy)).map (·.d)).length + t.d.left.toNat + 0 + 0 ≤ 2000
        rw [List.length_map]
        omega, hlen⟩
    generalize hs0 : (⟨(B.os (!t.d.buy)).map (·.d), t.d.left, [], []⟩ : MS) = s0 at st0 k
    refine ⟨MW A F B t fl rm s0, ⟨_, F, _, _, _, none, none, rfl, rfl, st0⟩, ?_⟩
    rintro n σ H' ⟨F', L', m, fs, v5, v6, rfl, rfl, S⟩
    have c := S.book.c
    have hl : H' (B.l (!t.d.buy)) = some (.lst (L'.map TO.ref)) := by
      have := c.l (!t.d.buy)
      rwa [setL_same] at this
    refine ⟨_, rfl, t.a, A.CO, t.dx, _, _, rfl, S.ord, T.cO, T.nO_left, ofs_left _, _, _, rfl, rfl, _, rfl, ?_⟩
    show if decide (0 < m.left) = true then _ else _
    by_cases h0 : 0 < m.left
    case neg =>
      refine iteFe (decide_eq_false h0) ?_
      refine iteF ?_
      exact k F' H' L' m fs (S.run _ (.done (.inl (by omega)))) S
    refine iteTe (decide_eq_true h0) ?_
    refine ⟨_, rfl, _, .inl ⟨_, SqL.of hl, rfl⟩, ?_⟩
    cases hL : L' with
    | nil =>
      refine iteF ?_
      refine k F' H' L' m fs (S.run _ (.done (.inr fun f hf => ?_))) S
      rw [← S.eL, hL] at hf
      cases hf
    | cons f L2 =>
      subst hL
      refine iteT ?_
      refine ⟨fun σ' H'' => ∃ n', n' < meas m ∧ MW A F B t fl rm s0 n' σ' H'', fun _ _ h => h, ?_⟩
      have hof : OAt A H' f := c.o (!t.d.buy) f (by rw [setL_same]; exact List.mem_cons_self)
      have gf : Good f.d ∧ f.d.buy = !t.d.buy := S.ok.good f.d (by rw [← S.eL]; exact List.mem_cons_self)
      have hfp : f.d.price = some f.d.pr := gf.1.2.2.2
      refine ⟨_, rfl, _, _, _, _, rfl, rfl, SqL.of hl, at_of (j := 0) rfl rfl, ?_⟩
      refine ⟨_, rfl, t.a, A.CO, t.dx, _, _, rfl, S.ord, T.cO, T.nO_side, ofs_side _, _, rfl, t.a, A.CO, t.dx, _, _, rfl, S.ord, T.cO, T.nO_price, ofs_price _, _, rfl, f.a, A.CO, f.dx, _, _, rfl, hof, T.cO, T.nO_price, ofs_price _, t.d.buy, t.d.price, f.d.pr, ?_, _, rfl, ?_⟩
      · show [V.str (sd t.d.buy), pV t.d.price, pV f.d.price] = _
        rw [hfp]
        rfl
      cases hacc : acc t.d.buy t.d.price f.d.pr with
      | false =>
        refine iteT ?_
        refine k F' H' (f :: L2) m fs (S.run _ (.done (.inr fun f' hf' => ?_))) S
        rw [← S.eL] at hf'
        cases hf'
        exact hacc
      | true =>
        refine iteF ?_
        have nm : ¬ mdone t.d.buy t.d.price m := by
          rintro (q | q)
          · omega
          · have := q f.d (by rw [← S.eL]; rfl)
            rw [hacc] at this
            cases this
        refine ⟨_, rfl, f.a, A.CO, f.dx, _, _, rfl, hof, T.cO, T.nO_house, ofs_house _, _, rfl, t.a, A.CO, t.dx, _, _, rfl, S.ord, T.cO, T.nO_house, ofs_house _, rfl, _, rfl, ?_⟩
        rw [str_eq]
        by_cases hh : f.d.house = t.d.house
        · refine iteTe (decide_eq_true hh) ?_
          refine ⟨_, rfl, .inl ⟨rfl, _, SqL.of S.hrm⟩, _, rfl, f.a, A.CO, f.dx, _, _, rfl, hof, T.cO, T.nO_number, ofs_number _, rm, _, _, rfl, rfl, S.hrm, by rw [List.length_map]; exact S.len_ok.1, ?_⟩
          have hl1 : upd H' rm (.lst (m.rem.map V.int ++ [.int f.d.num])) (B.l (!t.d.buy)) = some (.lst (f.ref :: L2.map TO.ref)) := (upd_ne (BookAt.foot_ne nrm).symm).trans hl
          refine ⟨_, rfl, .inl ⟨rfl, _, SqL.of hl1⟩, B.l (!t.d.buy), _, _, 0, _, rfl, rfl, hl1, by decide, by decide, seq0 (by simp), rfl, ?_⟩
          obtain ⟨S2, hm⟩ := S.own nm hh nt nfl nrm flrm
          exact ⟨_, hm, F', L2, _, fs, _, _, rfl, rfl, S2⟩
        · refine iteFe (decide_eq_false hh) ?_
          refine ⟨_, rfl, t.a, A.CO, t.dx, _, _, rfl, S.ord, T.cO, T.nO_left, ofs_left _, _, rfl, f.a, A.CO, f.dx, _, _, rfl, hof, T.cO, T.nO_visible, ofs_visible _, _, _, rfl, ?_⟩
          refine ⟨_, rfl, .inl ⟨rfl, _, SqL.of S.hfl⟩, _, rfl, f.a, A.CO, f.dx, _, _, rfl, hof, T.cO, T.nO_number, ofs_number _, _, rfl, f.a, A.CO, f.dx, _, _, rfl, hof, T.cO, T.nO_house, ofs_house _, _, rfl, f.a, A.CO, f.dx, _, _, rfl, hof, T.cO, T.nO_price, ofs_price _, _, rfl, (by show 4 ≤ sizeLine; decide), fun p hp => ?_⟩
          have fp : fl ≠ p := ne_of_none S.hfl hp
          have tp : t.a ≠ p := ne_of_none S.ord hp
          have ffp : f.a ≠ p := ne_of_none hof hp
          have tfl : t.a ≠ fl := S.tl S.hfl
          have ft : f.a ≠ t.a := fun e => nt (by rw [← e]; exact S.sub f List.mem_cons_self)
          have ffl : f.a ≠ fl := OAt.l hof S.hfl
          refine ⟨fl, _, _, rfl, rfl, (upd_ne fp).trans S.hfl, by rw [List.length_map]; exact S.len_ok.2, ?_⟩
          refine ⟨_, rfl, t.a, A.CO, t.dx, _, _, rfl, (upd_ne tfl).trans ((upd_ne tp).trans S.ord), T.cO, T.nO_left, ofs_left _, _, rfl, _, _, rfl, rfl, _, rfl, t.a, A.CO, t.dx, _, rfl, (upd_ne tfl).trans ((upd_ne tp).trans S.ord), T.cO, T.nO_left, (by show 7 < 1000; decide), ?_⟩
          rw [ofs_put_left]
          refine ⟨_, rfl, f.a, f.dx, _, rfl, (upd_ne ft).trans ((upd_ne ffl).trans ((upd_ne ffp).trans hof)), ofs_no_take _, _, rfl, f, _, rfl, (upd_ne ft).trans ((upd_ne ffl).trans ((upd_ne ffp).trans hof)), ?_⟩
          have b4 := S.trade (q := minI m.left f.d.vis) (row := [.int f.d.num, .str f.d.house, pV f.d.price, .int (minI m.left f.d.vis)]) nt nfl hp (od := { t.d with left := m.left - minI m.left f.d.vis }) (xs := (fs.map fun x => .ref x.1) ++ [.ref p])
          refine ⟨_, rfl, B.p, B.dx, _, rfl, b4.c.ob, bfs_no_settle_first _ _ _ _, _, rfl, _, rfl, _, B.setL (!t.d.buy) ({ f with d := hit f.d (minI m.left f.d.vis) } :: L2), !t.d.buy, { f with d := hit f.d (minI m.left f.d.vis) }, L2, rfl, b4, setL_same, gf.2, hfp, fun u hu => ?_, ?_, fun H5 L5 b5 e5 k5 h5 => ?_⟩
          · have := (S.ok.good u.d (by rw [← S.eL]; exact List.mem_cons_of_mem _ (List.mem_map.mpr ⟨u, hu, rfl⟩))).1
            exact this.2.2.2
          · have := S.len
            rw [List.length_cons] at this
            omega
          · rw [setL_setL] at b5
            rw [hfp] at b5 k5
            have h6 : ∀ u ∈ L5, B.foot u.a := fun u hu => by
              refine setL_foot (B := B) (s := !t.d.buy) (L := { f with d := hit f.d (minI m.left f.d.vis) } :: L2) (fun x hx => ?_) (h5 u hu)
              rcases List.mem_cons.mp hx with e | hx
              · rw [e]
                show B.foot f.a
                exact S.sub f List.mem_cons_self
              · exact S.sub x (List.mem_cons_of_mem _ hx)
            obtain ⟨S2, hm⟩ := S.fin nm hh nt nfl nrm flrm hp b5 e5 h6 (fun a h1 h2 => by
              rw [k5 a h1 h2, upd_ne h2]
              rfl)
            exact ⟨_, hm, _, L5, _, _, _, _, rfl, rfl, S2⟩
end
end K29
end

section
set_option Elab.async false
set_option maxRecDepth 100000
set_option maxHeartbeats 4000000
set_option linter.unusedVariables false
/-! Book: _enter -/
namespace K29
open PySem L2
theorem pt_never {X : Cx} {e : Expr} : PT X e (fun _ _ _ => False) := ⟨fun _ _ _ _ _ _ h => h.elim⟩
theorem pe_never {X : Cx} {e : Expr} : PE X e (fun _ _ _ => False) := ⟨fun _ _ _ _ _ _ h => h.elim⟩
/-- a report as it stands in the frozen part -/
structure RepAt (A : Ad) (F : Hp) (p : Addr) (r : Rp) (dx fl rm : Addr) (fs : List (Addr × Fl)) : Prop where
  ob : F p = some (.ins A.CR dx (rfs r.num r.house r.buy fl rm r.rest))
  hfl : F fl = some (.lst (fs.map fun x => .ref x.1))
  hrm : F rm = some (.lst (r.rem.map V.int))
  fsF : ∀ x ∈ fs, F x.1 = some (.tup (frow x.2))
  fsm : fs.map (·.2) = r.fills
/-- .. made of objects that F0 does not know -/
def RepIn (A : Ad) (F0 F : Hp) (p : Addr) (r : Rp) : Prop := ∃ dx fl rm fs, RepAt A F p r dx fl rm fs ∧ F0 p = none ∧ F0 fl = none ∧ F0 rm = none ∧ ∀ x ∈ fs, F0 x.1 = none
theorem RepAt.mono {A : Ad} {F F' : Hp} {p : Addr} {r : Rp} {dx fl rm : Addr} {fs : List (Addr × Fl)} (s : Same F F') (h : RepAt A F p r dx fl rm fs) : RepAt A F' p r dx fl rm fs :=
  ⟨s _ _ h.ob, s _ _ h.hfl, s _ _ h.hrm, fun x hx => s _ _ (h.fsF x hx), h.fsm⟩
theorem RepIn.mono {A : Ad} {F0 F F' : Hp} {p : Addr} {r : Rp} (s : Same F F') (h : RepIn A F0 F p r) : RepIn A F0 F' p r := by
  obtain ⟨dx, fl, rm, fs, h, q⟩ := h
  exact ⟨dx, fl, rm, fs, h.mono s, q⟩
theorem RepIn.less {A : Ad} {F0 F1 F : Hp} {p : Addr} {r : Rp} (s : Same F1 F0) (h : RepIn A F0 F p r) : RepIn A F1 F p r := by
  obtain ⟨dx, fl, rm, fs, h, q1, q2, q3, q4⟩ := h
  exact ⟨dx, fl, rm, fs, h, s.free q1, s.free q2, s.free q3, fun x hx => s.free (q4 x hx)⟩
/-- an object that F0 knows is taken out -/
theorem RepIn.del {A : Ad} {F0 F : Hp} {p a : Addr} {r : Rp} {o : HO} (ha : F0 a = some o) (h : RepIn A F0 F p r) : RepIn A F0 (del F a) p r := by
  obtain ⟨dx, fl, rm, fs, h, q1, q2, q3, q4⟩ := h
  have n : ∀ {b : Addr}, F0 b = none → b ≠ a := fun hb e => by
    rw [e, ha] at hb
    cases hb
  exact ⟨dx, fl, rm, fs, ⟨(del_ne (n q1)).trans h.ob, (del_ne (n q2)).trans h.hfl, (del_ne (n q3)).trans h.hrm, fun x hx => (del_ne (n (q4 x hx))).trans (h.fsF x hx), h.fsm⟩, q1, q2, q3, q4⟩
theorem Same.del {F G : Hp} {a : Addr} (s : Same F G) (h : F a = none) : Same F (del G a) := fun b o e => by
  rw [del_ne (ne_of_none e h)]
  exact s b o e
/-- behind the match and what rests, ahead of the last price -/
structure EMid (A : Ad) (K : PySem.W.Frag) (r : Bool) (F0 : Hp) (B0 : TB) (t : TO) (fl rm : Addr) (F H : Hp) (B : TB) (m : MS) (fs : List (Addr × Fl)) : Prop where
  same : Same F0 F
  book : BookAt A F H B
  run : MRun t.d.buy t.d.house t.d.price ⟨B0.bk.L (!t.d.buy), t.d.left, [], []⟩ m
  L : B.bk.L = (endBk r B0.bk t.d m).L
  stops : B.ss = B0.ss
  last : B.last = B0.last
  next : B.next = B0.next
  p : B.p = B0.p
  told : Told K H t.a t.d.num t.d.house t.d.buy
  hfl : H fl = some (.lst (fs.map fun x => .ref x.1))
  fsF : ∀ x ∈ fs, F x.1 = some (.tup (frow x.2))
  fsN : ∀ x ∈ fs, F0 x.1 = none
  fsm : fs.map (·.2) = m.fills
  hrm : H rm = some (.lst (m.rem.map V.int))
  Ffl : F fl = none
  Frm : F rm = none
  nfl : ¬ B.foot fl
  nrm : ¬ B.foot rm
  na : B.p ≠ t.a
section
variable {P : Program} {w : World} {K : PySem.W.Frag} {mg : Str → Option Value} {base : Heap} {A : Ad}
def spEnter (A : Ad) : Sp := fun vs H Q _ => ∃ (F : Hp) (B : TB) (t : TO) (r : Bool), vs = [.ref B.p, .ref t.a, .str (kd r)] ∧ BookAt A F H B ∧ OAt A H t ∧ F t.a = none ∧ ¬ B.foot t.a ∧ BInv 1000 B.bk ∧ 0 ≤ t.d.left ∧ t.d.left ≤ 1000 ∧ 0 ≤ t.d.shown ∧ (r = true → t.d.price = some t.d.pr) ∧
  ∀ F' H' B' p rp, Same F F' → BookAt A F' H' B' → EnterR r B.bk t.d B'.bk rp → RepIn A F F' p rp → B'.next = B.next → B'.p = B.p → Q (.ref p) H'
theorem bk_L {B : TB} {s : Bool} : B.bk.L s = (B.os s).map (·.d) := rfl
theorem BInv.lens {B : TB} (i : BInv 1000 B.bk) (s : Bool) : (B.os s).length ≤ 1000 := by
  have h := i.len
  have e1 : (B.bk.L true).length = (B.os true).length := List.length_map ..
  have e2 : (B.bk.L false).length = (B.os false).length := List.length_map ..
  cases s <;> omega
theorem ok_enter (T : Txt K mg A) : FnOk P w K mg base CX0 5 A.f_Benter A.d_Benter ["self", "order", "kind"] (spEnter A) := by
  refine T.F_Benter.ok sc_Benter (fun vs H Q E h => ?_) (fun cdv Ar outer s H vs Q E hr h => ?_)
  · obtain ⟨_, _, _, _, rfl, _⟩ := h
    rfl
  · obtain ⟨F, B, t, r, rfl, b, ho, Ft, nt, inv, h0, h1, hsh, hpr, k⟩ := h
    refine ⟨_, (pss_cons (ps_if (PW.pt (pw_and (pt_cmpR op_eq (pv 2) pe_str (nomark _)) (pw_and1 pt_never))) (pss_one ps_never) pss_nil)
      (pss_cons (ps_set (i := 3) sc_Benter.nd rfl (Or.inl rfl) (pe_lst pa_nil))
      (pss_cons (ps_set (i := 4) sc_Benter.nd rfl (Or.inl rfl) (pe_lst pa_nil))
      (pss_cons (ps_expr (pe_meth (pv 0) T.cB T.h_Bmatch (ok_match T) (hr.mono (by decide)) T.b_Bmatch .nil pass0 (pa_cons (pv 1) (pa_cons (pv 3) (pa_cons (pv 4) pa_nil)))))
      (pss_cons (ps_set (i := 5) sc_Benter.nd rfl (Or.inl rfl) pe_int)
      (Evl.pss_cut (ps_if (PW.pt (pw_and (pt_cmpR op_eq (pv 2) pe_str (nomark _)) (pw_and1 (pt_cmpR op_gt (pe_fld (pv 1) rfl) pe_int (nomark _))))) (pss_cons (ps_set (i := 5) sc_Benter.nd rfl (Or.inl rfl) (pe_fld (pv 1) rfl))
      (pss_cons (ps_expr (pe_meth0 (pv 1) T.cO T.h_Oshow_next_part (ok_show T) (hr.mono (by decide)) T.b_Oshow_next_part .nil pass0))
      (pss_one (ps_expr (pe_meth (pv 0) T.cB T.h_Binsert (ok_insert T) (hr.mono (by decide)) T.b_Binsert .nil pass0 (pa_cons (pv 1) pa_nil)))))) pss_nil)
      (Evl.pss_cut (ps_if (pt_truth (pv 3) (by intro _; rfl)) (pss_one (ps_fld (pv 0) (pe_ix ix_tup (pe_ix ix_list (pv 3) (pe_un un_neg pe_int) (fun _ _ => rfl)) pe_int (fun _ _ => rfl)) rfl)) pss_nil)
      (pss_one (ps_ret (pe_make T.kR (ok_rinit T) (hr.mono (by decide)) (by rfl) T.mR T.b_Rinit .nil pass0 (pa_cons (pv 1) (pa_cons (pv 3) (pa_cons (pv 4) (pa_cons (pv 5) pa_nil)))))))))))))), ?_⟩
    refine ⟨_, rfl, rfl, _, rfl, iteFe (kd_all r) (iteF ?_)⟩
    refine ⟨Nat.zero_le _, fun fl hfl => ⟨Nat.zero_le _, fun rm hrm => ?_⟩⟩
    have flrm : fl ≠ rm := fun e => by rw [← e, upd_same] at hrm; cases hrm
    have hrm0 : H rm = none := by rwa [upd_ne flrm.symm] at hrm
    have b2 : BookAt A F (upd (upd H fl (.lst [])) rm (.lst [])) B := (b.new hfl).new hrm
    have tfl : t.a ≠ fl := ne_of_none ho hfl
    have trm : t.a ≠ rm := ne_of_none ho hrm0
    have ho2 : OAt A (upd (upd H fl (.lst [])) rm (.lst [])) t := (upd_ne trm).trans ((upd_ne tfl).trans ho)
    refine ⟨_, rfl, B.p, B.dx, _, rfl, b2.c.ob, bfs_no_match _ _ _ _, _, rfl, _, rfl, _, rfl, F, B, t, fl, rm, rfl, b2, ho2, (upd_ne flrm).trans upd_same, upd_same, Ft, b.same.free hfl, b.same.free hrm0, nt, b.c.free hfl, b.c.free hrm0, flrm, ⟨fun f hf => inv.good _ f hf, h0⟩, inv.lens _, h1, fun F' H' L' m fs run S => ?_⟩
    have sL : ∀ {a : Addr}, ¬ B.foot a → ¬ (B.setL (!t.d.buy) L').foot a := fun h => S.nfoot h
    have pne : B.p ≠ t.a := fun e => nt (by rw [← e]; exact B.foot_p)
    have good : ∀ f ∈ m.L, Good f ∧ f.buy = !t.d.buy := S.ok.good
    refine ⟨fun σ' H'' => ∃ B' , σ' = [some (.ref B.p), some (.ref t.a), some (.str (kd r)), some (.ref fl), some (.ref rm), some (.int (if rests r m.left then m.left else 0))] ∧ EMid A K r F B t fl rm F' H'' B' m fs, ?_, ?_⟩
    · have plain : ¬ rests r m.left → EMid A K r F B t fl rm F' H' (B.setL (!t.d.buy) L') m fs := fun hn =>
        ⟨S.same, S.book, run, by
          funext x
          show ((if x = !t.d.buy then L' else B.os x).map (·.d)) = if x = t.d.buy then restL r t.d m.left (B.bk.L x) else m.L
          by_cases hx : x = t.d.buy
          · rw [if_pos hx, if_neg (by rw [hx]; cases t.d.buy <;> decide)]
            unfold restL
            rw [if_neg hn]
            rfl
          · rw [if_neg hx, if_pos (bool_ne hx), S.eL], rfl, rfl, rfl, rfl, OAt.told (t := { t with d := { t.d with left := m.left } }) T S.ord, S.hfl, S.fsF, S.fsN, S.fsm, S.hrm, S.Ffl, S.Frm, sL (b.c.free hfl), sL (b.c.free hrm0), pne⟩
      refine ⟨_, rfl, rfl, _, rfl, ?_⟩
      rw [kd_rest]
      cases r with
      | false =>
        refine iteF (iteF ?_)
        have hn : ¬ rests false m.left := fun q => by cases q.1
        refine ⟨_, ?_, plain hn⟩
        rw [if_neg hn]
        rfl
      | true =>
        refine iteT ?_
        refine ⟨_, rfl, t.a, A.CO, t.dx, _, _, rfl, S.ord, T.cO, T.nO_left, ofs_left _, _, _, rfl, rfl, _, rfl, ?_⟩
        show if decide (0 < m.left) = true then _ else _
        by_cases hm : 0 < m.left
        · refine iteTe (decide_eq_true hm) ?_
          have hrs : rests true m.left := ⟨rfl, hm⟩
          refine ⟨_, rfl, t.a, A.CO, t.dx, _, _, rfl, S.ord, T.cO, T.nO_left, ofs_left _, _, rfl, t.a, t.dx, _, rfl, S.ord, ofs_no_show_next_part _, { t with d := { t.d with left := m.left } }, rfl, S.ord, ?_⟩
          have b3 : BookAt A F' (upd H' t.a (.ins A.CO t.dx (ofs ({ t.d with left := m.left } : Od).show))) (B.setL (!t.d.buy) L') := S.book.up (sL nt) S.Ft
          have hsame : (B.setL (!t.d.buy) L').os t.d.buy = B.os t.d.buy := setL_ne (by cases t.d.buy <;> decide)
          have ho3 : OAt A (upd H' t.a (.ins A.CO t.dx (ofs ({ t.d with left := m.left } : Od).show))) { t with d := ({ t.d with left := m.left } : Od).show } := upd_same
          refine ⟨_, rfl, B.p, B.dx, _, rfl, b3.c.ob, bfs_no_insert _ _ _ _, _, rfl, B.setL (!t.d.buy) L', { t with d := ({ t.d with left := m.left } : Od).show }, rfl, b3.c, ho3, hpr rfl, fun u hu => ?_, ?_, ?_⟩
          · have hu' : u ∈ B.os t.d.buy := by rw [← hsame]; exact hu
            exact (inv.good t.d.buy u.d (List.mem_map.mpr ⟨u, hu', rfl⟩)).1.2.2.2
          · show ((B.setL (!t.d.buy) L').os t.d.buy).length ≤ 10000
            rw [hsame]
            exact Nat.le_trans (inv.lens _) (by decide)
          · have b4 := b3.insO (s := t.d.buy) (t := { t with d := ({ t.d with left := m.left } : Od).show }) (L := insG TO.d { t with d := ({ t.d with left := m.left } : Od).show } ((B.setL (!t.d.buy) L').os t.d.buy)) (insG_perm _ _ _) ho3 (sL nt) S.Ft
            have lne : ∀ {a : Addr}, ¬ B.foot a → a ≠ B.l t.d.buy := fun h e => h (by rw [e]; exact B.foot_l _)
            have nf4 : ∀ {a : Addr}, ¬ B.foot a → a ≠ t.a → ¬ ((B.setL (!t.d.buy) L').setL t.d.buy (insG TO.d { t with d := ({ t.d with left := m.left } : Od).show } ((B.setL (!t.d.buy) L').os t.d.buy))).foot a := fun {a} h hne q => by
              rcases q with e | e | e | e | ⟨x, u, hu, e⟩ | e
              · exact h (.inl e)
              · exact h (.inr (.inl e))
              · exact h (.inr (.inr (.inl e)))
              · exact h (.inr (.inr (.inr (.inl e))))
              · by_cases hx : x = t.d.buy
                · rw [hx, setL_same] at hu
                  rcases List.mem_cons.mp ((insG_perm TO.d _ _).mem_iff.mp hu) with e2 | hu
                  · rw [e2] at e
                    exact hne e
                  · rw [hsame] at hu
                    exact h (by rw [e]; exact TB.foot_o hu)
                · rw [setL_ne hx] at hu
                  have : x = !t.d.buy := bool_ne hx
                  rw [this, setL_same] at hu
                  exact h (by rw [e]; exact S.sub u hu)
              · exact h (.inr (.inr (.inr (.inr (.inr e)))))
            have keep : ∀ {a : Addr}, ¬ B.foot a → a ≠ t.a → upd (upd H' t.a (.ins A.CO t.dx (ofs ({ t.d with left := m.left } : Od).show))) (B.l t.d.buy) (.lst ((insG TO.d { t with d := ({ t.d with left := m.left } : Od).show } ((B.setL (!t.d.buy) L').os t.d.buy)).map TO.ref)) a = H' a := fun h hne => by rw [upd_ne (lne h), upd_ne hne]
            refine ⟨_, ?_, ⟨S.same, b4, run, ?_, rfl, rfl, rfl, rfl, OAt.told (t := { t with d := ({ t.d with left := m.left } : Od).show }) T ((upd_ne (lne nt)).trans ho3), (keep (b.c.free hfl) tfl.symm).trans S.hfl, S.fsF, S.fsN, S.fsm, (keep (b.c.free hrm0) trm.symm).trans S.hrm, S.Ffl, S.Frm, nf4 (b.c.free hfl) tfl.symm, nf4 (b.c.free hrm0) trm.symm, pne⟩⟩
            · rw [if_pos hrs]
              rfl
            · funext x
              show ((if x = t.d.buy then insG TO.d { t with d := ({ t.d with left := m.left } : Od).show } ((B.setL (!t.d.buy) L').os t.d.buy) else if x = !t.d.buy then L' else B.os x).map (·.d)) = if x = t.d.buy then restL true t.d m.left (B.bk.L x) else m.L
              by_cases hx : x = t.d.buy
              · rw [if_pos hx, if_pos hx, insG_map, hsame, hx]
                unfold restL
                rw [if_pos hrs]
                rfl
              · rw [if_neg hx, if_neg hx, if_pos (bool_ne hx), S.eL]
        · refine iteFe (decide_eq_false hm) ?_
          have hn : ¬ rests true m.left := fun q => hm q.2
          refine ⟨_, ?_, plain hn⟩
          rw [if_neg hn]
          rfl
    · rintro _ H3 ⟨B3, rfl, M⟩
      have hlast : ∀ x, fs.getLast? = some x → m.fills.getLast? = some x.2 := fun x hx => by rw [← M.fsm, List.getLast?_map, hx]; rfl
      refine ⟨fun σ' H'' => ∃ B', σ' = [some (.ref B.p), some (.ref t.a), some (.str (kd r)), some (.ref fl), some (.ref rm), some (.int (if rests r m.left then m.left else 0))] ∧ BookAt A F' H'' B' ∧ B'.bk = endBk r B.bk t.d m ∧ B'.next = B.next ∧ B'.p = B.p ∧ H'' fl = some (.lst (fs.map fun x => .ref x.1)) ∧ H'' rm = some (.lst (m.rem.map V.int)) ∧ ¬ B'.foot fl ∧ ¬ B'.foot rm ∧ Told K H'' t.a t.d.num t.d.house t.d.buy, ?_, ?_⟩
      · refine ⟨_, rfl, _, .inl ⟨_, SqL.of M.hfl, rfl⟩, ?_⟩
        cases hfs : fs.getLast? with
        | none =>
          have e0 : fs = [] := List.getLast?_eq_none_iff.mp hfs
          subst e0
          refine iteF ?_
          refine ⟨B3, rfl, M.book, ?_, M.next, M.p, M.hfl, M.hrm, M.nfl, M.nrm, M.told⟩
          have e1 : m.fills = [] := M.fsm.symm
          show (⟨B3.bk.L, B3.ss.map (·.d), B3.last⟩ : Bk) = _
          rw [M.L, M.stops, M.last]
          show _ = (⟨(endBk r B.bk t.d m).L, B.bk.stops, lastOf B.bk.last m.fills⟩ : Bk)
          rw [e1]
          rfl
        | some x =>
          obtain ⟨f0, rfl⟩ := List.getLast?_eq_some_iff.mp hfs
          have he : (!((f0 ++ [x]).map fun y => V.ref y.1).isEmpty) = true := by simp
          refine iteTe he ?_
          refine ⟨_, rfl, _, rfl, _, _, _, _, rfl, rfl, SqL.of M.hfl, (by rw [List.map_append]; exact atI_last _ _), _, _, _, _, rfl, rfl, SqT.of (M.book.same _ _ (M.fsF x (by simp))), at_of (j := 2) rfl rfl, _, rfl, B3.p, A.CB, B3.dx, _, by rw [M.p], M.book.c.ob, T.cB, T.nB_last, (by show 4 < 1000; decide), ?_⟩
          rw [bfs_put_last]
          have b5 := M.book.setB (next := B3.next) (last := some x.2.price)
          have pfl : fl ≠ B3.p := fun e => M.nfl (by rw [e]; exact B3.foot_p)
          have prm : rm ≠ B3.p := fun e => M.nrm (by rw [e]; exact B3.foot_p)
          refine ⟨{ B3 with next := B3.next, last := some x.2.price }, rfl, b5, ?_, M.next, M.p, (upd_ne pfl).trans M.hfl, (upd_ne prm).trans M.hrm, M.nfl, M.nrm, ?_⟩
          · show (⟨B3.bk.L, B3.ss.map (·.d), some x.2.price⟩ : Bk) = _
            rw [M.L, M.stops]
            show _ = (⟨(endBk r B.bk t.d m).L, B.bk.stops, lastOf B.bk.last m.fills⟩ : Bk)
            unfold lastOf
            rw [hlast x hfs]
            rfl
          · obtain ⟨C, dx, fs', e1, e2⟩ := M.told
            exact ⟨C, dx, fs', (upd_ne (by rw [M.p]; exact pne.symm)).trans e1, e2⟩
      · rintro _ H5 ⟨B5, rfl, b5, ebk, enx, ep, hfl5, hrm5, nfl5, nrm5, told5⟩
        refine ⟨_, rfl, _, rfl, _, rfl, _, rfl, fun x dx nx ndx nex => ?_⟩
        obtain ⟨C, da, fs', ea, eb⟩ := told5
        have ta_x : t.a ≠ x := ne_of_none ea nx
        have ta_dx : t.a ≠ dx := ne_of_none ea ndx
        refine ⟨x, dx, t.a, fl, rm, t.d.num, t.d.house, t.d.buy, _, rfl, upd_same, ⟨C, da, fs', (upd_ne ta_x).trans ((upd_ne ta_dx).trans ea), eb⟩, ta_x.symm, rfl, ?_⟩
        rw [upd_upd]
        have b6 := (b5.frz hfl5 nfl5).frz hrm5 nrm5
        have b7 : BookAt A (upd (upd F' fl (.lst (fs.map fun x => .ref x.1))) rm (.lst (m.rem.map V.int))) (upd (upd H5 dx (.own x)) x (.ins A.CR dx (rfs t.d.num t.d.house t.d.buy fl rm (if rests r m.left then m.left else 0)))) B5 :=
          (b6.new ndx).new (by rw [upd_ne nex.symm]; exact nx)
        have nfx : ¬ B5.foot x := b5.c.free nx
        have b8 := b7.frz (a := x) upd_same nfx
        have xfl : fl ≠ x := ne_of_none hfl5 nx
        have xrm : rm ≠ x := ne_of_none hrm5 nx
        refine k _ _ B5 x ⟨t.d.num, t.d.house, t.d.buy, m.fills, m.rem, if rests r m.left then m.left else 0⟩ ?_ b8 ⟨m, run, ebk, rfl⟩ ⟨dx, fl, rm, fs, ⟨upd_same, ?_, ?_, fun y hy => ?_, M.fsm⟩, S.same.free (b5.same.free nx), b.same.free hfl, b.same.free hrm0, M.fsN⟩ enx ep
        · have s1 : Same F' (upd F' fl (.lst (fs.map fun x => .ref x.1))) := Same.newH M.Ffl
          have s2 : Same (upd F' fl (.lst (fs.map fun x => .ref x.1))) (upd (upd F' fl (.lst (fs.map fun x => .ref x.1))) rm (.lst (m.rem.map V.int))) := Same.newH (by rw [upd_ne flrm.symm]; exact M.Frm)
          have s3 : Same (upd (upd F' fl (.lst (fs.map fun x => .ref x.1))) rm (.lst (m.rem.map V.int))) (upd (upd (upd F' fl (.lst (fs.map fun x => .ref x.1))) rm (.lst (m.rem.map V.int))) x (.ins A.CR dx (rfs t.d.num t.d.house t.d.buy fl rm (if rests r m.left then m.left else 0)))) := Same.newH (b6.same.free nx)
          exact (M.same.trans s1).trans (s2.trans s3)
        · rw [upd_ne xfl, upd_ne flrm, upd_same]
        · rw [upd_ne xrm, upd_same]
        · have hy1 := M.fsF y hy
          have n1 : y.1 ≠ rm := fun e => by
            rw [e, M.Frm] at hy1
            cases hy1
          have n2 : y.1 ≠ fl := fun e => by
            rw [e, M.Ffl] at hy1
            cases hy1
          rw [upd_ne (ne_of_none (b5.same _ _ hy1) nx), upd_ne n1, upd_ne n2]
          exact hy1
end
end K29
end

section
set_option Elab.async false
set_option maxRecDepth 100000
set_option maxHeartbeats 4000000
set_option linter.unusedVariables false
/-! Book: _trigger -/
namespace K29
open PySem L2
def RepsIn (A : Ad) (F0 F : Hp) : List Addr → List Rp → Prop
  | [], [] => True
  | p :: ps, r :: rs => RepIn A F0 F p r ∧ RepsIn A F0 F ps rs
  | _, _ => False
theorem RepsIn.imp {A : Ad} {F0 F F1 F' : Hp} (h : ∀ p r, RepIn A F0 F p r → RepIn A F1 F' p r) : ∀ {ps : List Addr} {rs : List Rp}, RepsIn A F0 F ps rs → RepsIn A F1 F' ps rs
  | [], [], _ => trivial
  | _ :: _, _ :: _, q => ⟨h _ _ q.1, RepsIn.imp h q.2⟩
  | [], _ :: _, q => q
  | _ :: _, [], q => q
theorem RepsIn.mono {A : Ad} {F0 F F' : Hp} (s : Same F F') {ps : List Addr} {rs : List Rp} (h : RepsIn A F0 F ps rs) : RepsIn A F0 F' ps rs := h.imp fun _ _ q => q.mono s
theorem RepsIn.snoc {A : Ad} {F0 F : Hp} {p : Addr} {r : Rp} (h : RepIn A F0 F p r) : ∀ {ps : List Addr} {rs : List Rp}, RepsIn A F0 F ps rs → RepsIn A F0 F (ps ++ [p]) (rs ++ [r])
  | [], [], _ => ⟨h, trivial⟩
  | _ :: _, _ :: _, q => ⟨q.1, RepsIn.snoc h q.2⟩
  | [], _ :: _, q => q.elim
  | _ :: _, [], q => q.elim
theorem RepsIn.len {A : Ad} {F0 F : Hp} : ∀ {ps : List Addr} {rs : List Rp}, RepsIn A F0 F ps rs → ps.length = rs.length
  | [], [], _ => rfl
  | _ :: _, _ :: _, q => congrArg Nat.succ (RepsIn.len q.2)
  | [], _ :: _, q => q.elim
  | _ :: _, [], q => q.elim
theorem fst_bk (B : TB) : (fst_ B).map (·.d) = firstR B.bk.last B.bk.stops := by
  show _ = (B.ss.map (·.d)).find? (reached B.last)
  rw [List.find?_map]
  rfl
theorem rmv_bk (ss : List TS) (n : Int) : (ss.filter fun u => !decide (u.d.num = n)).map (·.d) = rmvS n (ss.map (·.d)) := by
  unfold rmvS
  rw [List.filter_map]
  rfl
section
variable {P : Program} {w : World} {K : PySem.W.Frag} {mg : Str → Option Value} {base : Heap} {A : Ad}
/-- the state of the triggering at a turn -/
structure TSt (A : Ad) (F0 : Hp) (B0 : TB) (rl : Addr) (F H : Hp) (B : TB) (rs : List Rp) (ps : List Addr) : Prop where
  same : Same F0 F
  Frl : F rl = none
  nrl : ¬ B.foot rl
  book : BookAt A F H B
  hrl : H rl = some (.lst (ps.map V.ref))
  reps : RepsIn A F0 F ps rs
  inv : BInv 1000 B.bk
  run : ∀ b2 rs2, TrigR B.bk b2 rs2 → TrigR B0.bk b2 (rs ++ rs2)
  p : B.p = B0.p
  next : B.next = B0.next
  len : ps.length + B.ss.length ≤ 1000
def TW (A : Ad) (F : Hp) (B : TB) (rl : Addr) : Nat → L2.St → Hp → Prop := fun n σ H' => ∃ F1 B1 rs ps v3 v4 v5, σ = [some (.ref B.p), some (.ref rl), some ((fst_ B1).elim V.non TS.ref), v3, v4, v5] ∧ n = B1.ss.length ∧ TSt A F B rl F1 H' B1 rs ps
def spTrig (A : Ad) : Sp := fun vs H Q _ => ∃ (F : Hp) (B : TB), vs = [.ref B.p] ∧ BookAt A F H B ∧ BInv 1000 B.bk ∧
  ∀ F' H' B' p rs ps, Same F F' → BookAt A F' H' B' → TrigR B.bk B'.bk rs → F' p = some (.lst (ps.map V.ref)) → F p = none → RepsIn A F F' ps rs → ps.length ≤ 1000 → BInv 1000 B'.bk → B'.next = B.next → B'.p = B.p → Q (.ref p) H'
theorem ok_trigger (T : Txt K mg A) : FnOk P w K mg base CX0 6 A.f_Btrigger A.d_Btrigger ["self"] (spTrig A) := by
  refine T.F_Btrigger.ok sc_Btrigger (fun vs H Q E h => ?_) (fun cdv Ar outer s H vs Q E hr h => ?_)
  · obtain ⟨_, _, rfl, _⟩ := h
    rfl
  · obtain ⟨F, B, rfl, b, inv, k⟩ := h
    refine ⟨_, (pss_cons (ps_set (i := 1) sc_Btrigger.nd rfl (Or.inl rfl) (pe_lst pa_nil))
      (pss_cons (ps_set (i := 2) sc_Btrigger.nd rfl (Or.inr rfl) (pe_meth0 (pv 0) T.cB T.h_Bfirst_reached (ok_first T) (hr.mono (by decide)) T.b_Bfirst_reached .nil pass0))
      (pss_cons (ps_while PassesOwn.never (pt_cmpR op_notN (pv 2) pe_non (nomark _)) (pss_cons (ps_fld (pv 0) (pe_lc (own := [("stop", 3)]) (g := gName 3) (tt := tTest (tOp rNe (tFld K (tVar 3) "number") (tFld K (tVar 2) "number"))) (te := tVar 3) rfl sc_Btrigger.nd (pi_list (pe_fld (pv 0) rfl)) (blkOk_by (N := ["self", "reports", "reached", "stop", "order", "kind"]) (sc := defScope s_Btrigger) (by decide +kernel)) (fun _ _ _ _ _ => pg_name (i := 3) sc_Btrigger.nd rfl (Or.inl rfl)) (fun _ _ _ _ _ => pts_one (pt_cmpR op_ne (pe_fld (pv 3) rfl) (pe_fld (pv 2) rfl) (nomark _))) (fun _ _ _ _ _ => pv 3)) rfl)
      (pss_cons (ps_set (i := 4) sc_Btrigger.nd rfl (Or.inl rfl) (pe_make T.kO (ok_oinit T) (hr.mono (by decide)) (by rfl) T.mO T.b_Oinit .nil pass0 (pa_cons (pe_fld (pv 2) rfl) (pa_cons (pe_fld (pv 2) rfl) (pa_cons (pe_fld (pv 2) rfl) (pa_cons (pe_fld (pv 2) rfl) (pa_cons (pe_fld (pv 2) rfl) (pa_cons pe_int pa_nil))))))))
      (pss_cons (ps_set (i := 5) sc_Btrigger.nd rfl (Or.inl rfl) pe_str)
      (Evl.pss_cut (ps_if (pt_cmpR op_isN (pe_fld (pv 2) rfl) pe_non (nomark _)) (pss_one (ps_set (i := 5) sc_Btrigger.nd rfl (Or.inl rfl) pe_str)) pss_nil)
      (pss_cons (ps_expr (pe_bm PySem.F.plainAttrs_list PySem.F.slot_list_append PySem.F.type_list_append mt_append (pv 1) (pa_cons (pe_meth (pv 0) T.cB T.h_Benter (ok_enter T) (hr.mono (by decide)) T.b_Benter .nil pass0 (pa_cons (pv 4) (pa_cons (pv 5) pa_nil))) pa_nil)))
      (pss_one (ps_set (i := 2) sc_Btrigger.nd rfl (Or.inr rfl) (pe_meth0 (pv 0) T.cB T.h_Bfirst_reached (ok_first T) (hr.mono (by decide)) T.b_Bfirst_reached .nil pass0)))))))))
      (pss_one (ps_ret (pv 1)))))), ?_⟩
    refine ⟨Nat.zero_le _, fun rl hrl => ?_⟩
    have b1 := b.new (o := .lst []) hrl
    refine ⟨_, rfl, B.p, B.dx, _, rfl, b1.c.ob, bfs_no_first_reached _ _ _ _, B, rfl, b1.c, ?_⟩
    have i2 := inv.len
    have i3 : B.bk.stops.length = B.ss.length := List.length_map ..
    refine ⟨TW A F B rl, ⟨_, F, B, [], [], none, none, none, rfl, rfl, Same.refl F, b.same.free hrl, b.c.free hrl, b1, upd_same, trivial, inv, fun _ _ h => h, rfl, rfl, by rw [← i3]; simp; omega⟩, ?_⟩
    rintro n σ H1 ⟨F1, B1, rs, ps, v3, v4, v5, rfl, rfl, S⟩
    have c := S.book.c
    have ob : H1 B.p = some (.ins A.CB B1.dx (bfs B1.rd B1.st B1.next B1.last)) := by rw [← S.p]; exact c.ob
    refine ⟨_, rfl, rfl, _, rfl, ?_⟩
    cases hf : fst_ B1 with
    | none =>
      refine iteFe rfl ?_
      have h1 : firstR B1.bk.last B1.bk.stops = none := by rw [← fst_bk, hf] <;> rfl
      have hr2 := S.run _ _ (.done h1)
      rw [List.append_nil] at hr2
      refine ⟨_, rfl, k (upd F1 rl (.lst (ps.map V.ref))) H1 B1 rl rs ps (S.same.trans (Same.newH S.Frl)) (S.book.frz S.hrl S.nrl) hr2 upd_same (S.same.free S.Frl) (S.reps.mono (Same.newH S.Frl)) ?_ S.inv S.next S.p⟩
      have := S.len
      omega
    | some s =>
      refine iteTe rfl ?_
      have hs : s ∈ B1.ss := List.mem_of_find?_eq_some hf
      have hsat := c.s s hs
      have h1 : firstR B1.bk.last B1.bk.stops = some s.d := by rw [← fst_bk, hf] <;> rfl
      refine ⟨fun σ' H'' => ∃ n', n' < B1.ss.length ∧ TW A F B rl n' σ' H'', fun _ _ h => h, ?_⟩
      refine ⟨_, rfl, B.p, A.CB, B1.dx, _, _, rfl, ob, T.cB, T.nB_stops, bfs_stops _ _ _ _, B1.st, rfl, ⟨_, SqL.of c.st⟩, fun D hD => ?_⟩
      have cD : ∀ o, BCells A (upd H1 D o) B1 := fun o => c.sameH (Same.newH hD)
      have sD : ∀ o, SAt A (upd H1 D o) s := fun o => Same.newH hD _ _ hsat
      refine lc_list (K := K) (a := B1.st) (xs := B1.ss.map TS.ref) (fun i H' => H' = upd H1 D (.lst (((B1.ss.take i).filter fun u => !decide (u.d.num = s.d.num)).map TS.ref))) rfl (fun i H' _ e => by rw [e]; exact SqL.of (cD _).st) ?_ ?_
      · rintro i x H' hi rfl
        obtain ⟨u, hu, rfl⟩ := TS.ref_ix hi
        have hou := (cD (.lst (((B1.ss.take i).filter fun u => !decide (u.d.num = s.d.num)).map TS.ref))).s u (List.mem_of_getElem? hu)
        refine ⟨rfl, ?_⟩
        refine ⟨_, rfl, u.a, A.CS, u.dx, _, _, rfl, hou, T.cS, T.nS_number, sfs_number _, _, rfl, s.a, A.CS, s.dx, _, _, rfl, sD _, T.cS, T.nS_number, sfs_number _, rfl, _, rfl, ?_⟩
        rw [int_eq, take_snoc hu, List.filter_append, List.filter_cons]
        by_cases hn : u.d.num = s.d.num
        · rw [decide_eq_true hn]
          refine iteF ?_
          rw [if_neg (by simp), List.filter_nil, List.append_nil]
        · rw [decide_eq_false hn]
          refine iteT ?_
          refine ⟨_, rfl, _, upd_same, ?_, ?_⟩
          · rw [List.length_map]
            have := S.len
            exact Nat.lt_of_le_of_lt (Nat.le_trans (List.length_filter_le _ _) (by rw [List.length_take]; exact Nat.le_trans (Nat.min_le_right _ _) (Nat.le_trans (Nat.le_add_left _ _) this))) (show 1000 < sizeLine by decide)
          · rw [upd_upd, if_pos (by simp), List.filter_nil, List.map_append]
            rfl
      · rintro H2 rfl
        rw [List.length_map, List.take_length]
        have obD : ∀ o, upd H1 D o B.p = some (.ins A.CB B1.dx (bfs B1.rd B1.st B1.next B1.last)) := fun o => Same.newH hD _ _ ob
        refine ⟨_, rfl, B.p, A.CB, B1.dx, _, rfl, obD _, T.cB, T.nB_stops, (by show 4 < 1000; decide), ?_⟩
        rw [bfs_put_stops]
        have bD := S.book.new (o := .lst ((B1.ss.filter fun u => !decide (u.d.num = s.d.num)).map TS.ref)) hD
        have b3 := bD.setS (st := D) (ss := B1.ss.filter fun u => !decide (u.d.num = s.d.num)) upd_same (c.free hD) (S.book.same.free hD) (fun t ht => (List.mem_filter.mp ht).1)
        have eP : upd (upd H1 D (.lst ((B1.ss.filter fun u => !decide (u.d.num = s.d.num)).map TS.ref))) B1.p (.ins A.CB B1.dx (bfs B1.rd D B1.next B1.last)) = upd (upd H1 D (.lst ((B1.ss.filter fun u => !decide (u.d.num = s.d.num)).map TS.ref))) B.p (.ins A.CB B1.dx (bfs B1.rd D B1.next B1.last)) := by rw [S.p]
        rw [eP] at b3
        have spne : s.a ≠ B.p := by rw [← S.p]; exact ne_of hsat c.ob (ins_ne sfs_ne_bfs)
        have hs3 : SAt A (upd (upd H1 D (.lst ((B1.ss.filter fun u => !decide (u.d.num = s.d.num)).map TS.ref))) B.p (.ins A.CB B1.dx (bfs B1.rd D B1.next B1.last))) s := (upd_ne spne).trans (sD _)
        generalize hH3 : upd (upd H1 D (.lst ((B1.ss.filter fun u => !decide (u.d.num = s.d.num)).map TS.ref))) B.p (.ins A.CB B1.dx (bfs B1.rd D B1.next B1.last)) = H3 at b3 hs3
        have rlp : rl ≠ B.p := fun e => S.nrl (by rw [e, ← S.p]; exact B1.foot_p)
        have rlD : rl ≠ D := ne_of_none S.hrl hD
        have hrl3 : H3 rl = some (.lst (ps.map V.ref)) := by
          rw [← hH3, upd_ne rlp, upd_ne rlD]
          exact S.hrl
        generalize hB3 : ({ B1 with st := D, ss := B1.ss.filter fun u => !decide (u.d.num = s.d.num) } : TB) = B3 at b3
        have bk3 : B3.bk = { B1.bk with stops := rmvS s.d.num B1.bk.stops } := by
          rw [← hB3]
          show (⟨B1.bk.L, (B1.ss.filter fun u => !decide (u.d.num = s.d.num)).map (·.d), B1.last⟩ : Bk) = _
          rw [rmv_bk]
          rfl
        have p3 : B3.p = B.p := by rw [← hB3]; exact S.p
        have nx3 : B3.next = B.next := by rw [← hB3]; exact S.next
        have nrl3 : ¬ B3.foot rl := by
          rw [← hB3]
          rintro (e | e | e | e | e | ⟨t, ht, e⟩)
          · exact S.nrl (.inl e)
          · exact S.nrl (.inr (.inl e))
          · exact rlD e
          · exact S.nrl (.inr (.inr (.inr (.inl e))))
          · exact S.nrl (.inr (.inr (.inr (.inr (.inl e)))))
          · exact S.nrl (.inr (.inr (.inr (.inr (.inr ⟨t, (List.mem_filter.mp ht).1, e⟩)))))
        have hlen3 : B3.ss.length + 1 ≤ B1.ss.length := by
          have h5 := rmvS_len (n := s.d.num) (ss := B1.ss.map (·.d)) (List.mem_map.mpr ⟨s, hs, rfl⟩) rfl
          rw [← rmv_bk, List.length_map, List.length_map] at h5
          rw [← hB3]
          exact h5
        refine ⟨_, rfl, s.a, A.CS, s.dx, _, _, rfl, hs3, T.cS, T.nS_number, sfs_number _, _, rfl, s.a, A.CS, s.dx, _, _, rfl, hs3, T.cS, T.nS_house, sfs_house _, _, rfl, s.a, A.CS, s.dx, _, _, rfl, hs3, T.cS, T.nS_side, sfs_side _, _, rfl, s.a, A.CS, s.dx, _, _, rfl, hs3, T.cS, T.nS_price, sfs_price _, _, rfl, s.a, A.CS, s.dx, _, _, rfl, hs3, T.cS, T.nS_quantity, sfs_quantity _, fun x dx nx ndx nex => ?_⟩
        refine ⟨x, dx, s.d.num, s.d.house, s.d.buy, s.d.price, s.d.qty, 0, rfl, upd_same, rfl, ?_⟩
        rw [upd_upd]
        have b4 : BookAt A F1 (upd (upd H3 dx (.own x)) x (.ins A.CO dx (ofs (mkOd s.d.num s.d.house s.d.buy s.d.price s.d.qty 0)))) B3 := (b3.new (o := .own x) ndx).new (by rw [upd_ne nex.symm]; exact nx)
        have nfx : ¬ B3.foot x := b3.c.free nx
        have Fx : F1 x = none := b3.same.free nx
        have hs4 : SAt A (upd (upd H3 dx (.own x)) x (.ins A.CO dx (ofs (mkOd s.d.num s.d.house s.d.buy s.d.price s.d.qty 0)))) s := (upd_ne (ne_of_none hs3 nx)).trans ((upd_ne (ne_of_none hs3 ndx)).trans hs3)
        have hrl4 : upd (upd H3 dx (.own x)) x (.ins A.CO dx (ofs (mkOd s.d.num s.d.house s.d.buy s.d.price s.d.qty 0))) rl = some (.lst (ps.map V.ref)) := (upd_ne (ne_of_none hrl3 nx)).trans ((upd_ne (ne_of_none hrl3 ndx)).trans hrl3)
        have ho4 : OAt A (upd (upd H3 dx (.own x)) x (.ins A.CO dx (ofs (mkOd s.d.num s.d.house s.d.buy s.d.price s.d.qty 0)))) ⟨x, dx, odOf s.d⟩ := upd_same
        have rlx : rl ≠ x := ne_of_none hrl3 nx
        generalize upd (upd H3 dx (.own x)) x (.ins A.CO dx (ofs (mkOd s.d.num s.d.house s.d.buy s.d.price s.d.qty 0))) = H4 at b4 hs4 hrl4 ho4
        refine ⟨fun σ' H'' => ∃ v3, σ' = [some (.ref B.p), some (.ref rl), some (.ref s.a), v3, some (.ref x), some (.str (kd s.d.price.isSome))] ∧ H'' = H4, ⟨_, rfl, s.a, A.CS, s.dx, _, _, rfl, hs4, T.cS, T.nS_price, sfs_price _, rfl, _, rfl, ?_⟩, ?_⟩
        · rw [pV_non]
          cases hp : s.d.price with
          | none =>
            refine iteTe rfl ?_
            exact ⟨_, rfl, rfl⟩
          | some v =>
            refine iteFe rfl ?_
            exact ⟨_, rfl, rfl⟩
        · rintro _ _ ⟨v3', rfl, rfl⟩
          rename_i H4
          have b5 := b4.frz (a := rl) hrl4 nrl3
          have inv3 : BInv 1000 B3.bk := by
            rw [bk3]
            refine ⟨S.inv.good, fun z hz => S.inv.stp z (List.mem_filter.mp hz).1, ?_⟩
            have h6 := S.inv.len
            have h7 : (rmvS s.d.num B1.bk.stops).length ≤ B1.bk.stops.length := List.length_filter_le _ _
            show (B1.bk.L true).length + (B1.bk.L false).length + (rmvS s.d.num B1.bk.stops).length ≤ 1000
            omega
          have hq := S.inv.stp s.d (List.mem_map.mpr ⟨s, hs, rfl⟩)
          have ob5 : H4 B.p = some (.ins A.CB B3.dx (bfs B3.rd B3.st B3.next B3.last)) := by rw [← p3]; exact b4.c.ob
          refine ⟨_, rfl, .inl ⟨rfl, _, SqL.of hrl4⟩, _, rfl, B.p, B3.dx, _, rfl, ob5, bfs_no_enter _ _ _ _, _, rfl, _, rfl, upd F1 rl (.lst (ps.map V.ref)), B3, ⟨x, dx, odOf s.d⟩, s.d.price.isSome, by rw [p3]; rfl, b5, ho4, ?_, nfx, inv3, ?_, ?_, Int.le_refl _, odOf_price, fun F' H5 B4 rp r sF b6 en rep nx4 pp4 => ?_⟩
          · exact (upd_ne rlx.symm).trans Fx
          · show 0 ≤ s.d.qty
            omega
          · show s.d.qty ≤ 1000
            omega
          have hF1' : Same F1 F' := (Same.newH S.Frl).trans sF
          have hrl5 : H5 rl = some (.lst (ps.map V.ref)) := b6.same _ _ (sF _ _ upd_same)
          have nrl5 : ¬ B4.foot rl := b6.foot_of (sF _ _ upd_same)
          have b7 : BookAt A (del F' rl) (upd H5 rl (.lst (ps.map V.ref ++ [.ref rp]))) B4 := (b6.thaw rl).up nrl5 del_same
          have p4 : B4.p = B.p := pp4.trans p3
          have ob6 : upd H5 rl (.lst (ps.map V.ref ++ [.ref rp])) B.p = some (.ins A.CB B4.dx (bfs B4.rd B4.st B4.next B4.last)) := by rw [← p4]; exact b7.c.ob
          refine ⟨rl, _, _, rfl, rfl, hrl5, by rw [List.length_map]; have := S.len; exact Nat.lt_of_le_of_lt (show ps.length ≤ 1000 by omega) (by decide), ?_⟩
          refine ⟨_, rfl, B.p, B4.dx, _, rfl, ob6, bfs_no_first_reached _ _ _ _, B4, by rw [p4]; rfl, b7.c, ?_⟩
          have en2 : EnterR s.d.price.isSome { B1.bk with stops := rmvS s.d.num B1.bk.stops } (odOf s.d) B4.bk r := by rw [← bk3]; exact en
          have l4 : B4.ss.length = B3.ss.length := by
            obtain ⟨z, _, e, _⟩ := en
            have e2 : B4.bk.stops = B3.bk.stops := by rw [e]; rfl
            have e3 := congrArg List.length e2
            have e4 : B4.bk.stops.length = B4.ss.length := List.length_map ..
            have e5 : B3.bk.stops.length = B3.ss.length := List.length_map ..
            omega
          refine ⟨B4.ss.length, by omega, del F' rl, B4, rs ++ [r], ps ++ [rp], _, _, _, rfl, rfl, ⟨S.same.trans (Same.del hF1' S.Frl), del_same, nrl5, b7, ?_, ?_, BInv.trig1 S.inv h1 en2, fun b2 rs2 h => ?_, p4, nx4.trans nx3, ?_⟩⟩
          · rw [upd_same, List.map_append]
            rfl
          · refine RepsIn.snoc ?_ (S.reps.mono (Same.del hF1' S.Frl))
            exact (rep.del upd_same).less (S.same.trans (Same.newH S.Frl))
          · rw [List.append_assoc]
            exact S.run b2 (r :: rs2) (.step h1 en2 h)
          · rw [List.length_append, List.length_singleton]
            have := S.len
            omega
end
end K29
end

section
set_option Elab.async false
set_option maxRecDepth 100000
set_option maxHeartbeats 4000000
set_option linter.unusedVariables false
/-! Book: submit, submit_stop -/
namespace K29
open PySem L2
section
variable {P : Program} {w : World} {K : PySem.W.Frag} {mg : Str → Option Value} {base : Heap} {A : Ad}
/-- the report, and those of the stop orders behind it -/
theorem tail_ok {E : XK} {D : Ends} {σ : L2.St} {i : Nat} {F0 F1 H1 : Hp} {B1 : TB} {rp : Addr} {r : Rp} (h0 : σ[0]? = some (some (.ref B1.p))) (hi : σ[i]? = some (some (.ref rp))) (b : BookAt A F1 H1 B1) (s01 : Same F0 F1) (rep : RepIn A F0 F1 rp r) (inv : BInv 1000 B1.bk)
    (k : ∀ F' H' B' p rs ps, Same F0 F' → BookAt A F' H' B' → TrigR B1.bk B'.bk rs → F' p = some (.lst (ps.map V.ref)) → F0 p = none → RepsIn A F0 F' ps (r :: rs) → ps.length ≤ 1001 → B'.next = B1.next → B'.p = B1.p → D.rt (.ref p) H') :
    (tRet (tOp rCat (tLst (tCons (tVar i) tNil)) (tMeth A.CB "_trigger" (spTrig A) [] E (tVar 0) tNil))) D σ H1 := by
  refine ⟨_, hi, (by show 1 ≤ sizeLine; decide), fun l hl => ?_⟩
  have b2 := (b.new (o := .lst [.ref rp]) hl).frz (a := l) upd_same (b.c.free hl)
  have Fl : F1 l = none := b.same.free hl
  refine ⟨_, h0, B1.p, B1.dx, _, rfl, b2.c.ob, bfs_no_trigger _ _ _ _, upd F1 l (.lst [.ref rp]), B1, rfl, b2, inv, fun F' H' B' p rs ps sF b3 tr hp hp0 reps hlen _ nx pp => ?_⟩
  have sF1 : Same F1 F' := (Same.newH Fl).trans sF
  refine ⟨l, p, _, _, rfl, rfl, b3.same _ _ (sF _ _ upd_same), b3.same _ _ hp, ?_, fun q hq => ?_⟩
  · rw [List.length_map]
    show 1 + ps.length ≤ sizeLine
    exact Nat.le_trans (show 1 + ps.length ≤ 2000 by omega) (by decide)
  · have b4 := (b3.new (o := .lst ([.ref rp] ++ ps.map V.ref)) hq).frz (a := q) upd_same (b3.c.free hq)
    have Fq : F' q = none := b3.same.free hq
    refine k _ _ B' q rs (rp :: ps) (s01.trans (sF1.trans (Same.newH Fq))) b4 tr upd_same ((s01.trans sF1).free Fq) ⟨(rep.mono sF1).mono (Same.newH Fq), ?_⟩ (by rw [List.length_cons]; omega) nx pp
    exact (reps.imp fun _ _ z => z.less (s01.trans (Same.newH Fl))).mono (Same.newH Fq)
structure SubOut (A : Ad) (F : Hp) (B : TB) (F' H' : Hp) (B' : TB) (p : Addr) (ps : List Addr) (rs : List Rp) : Prop where
  same : Same F F'
  book : BookAt A F' H' B'
  hp : F' p = some (.lst (ps.map V.ref))
  fp : F p = none
  reps : RepsIn A F F' ps rs
  len : ps.length ≤ 1001
  p : B'.p = B.p
def spSubmit (A : Ad) : Sp := fun vs H Q _ => ∃ (F : Hp) (B : TB) (h : Str) (b r : Bool) (p : Option Int) (q sh : Int), vs = [.ref B.p, .str h, .str (sd b), pV p, .int q, .str (kd r), .int sh] ∧ BookAt A F H B ∧ BInv 999 B.bk ∧
  (∀ i, p = some i → Rng i) ∧ (r = true → p.isSome = true) ∧ 1 ≤ q ∧ q ≤ 1000 ∧ 0 ≤ sh ∧ sh ≤ q ∧ (0 < sh → r = true) ∧
  ∀ F' H' B' P rp b1 rs ps, SubOut A F B F' H' B' P ps (rp :: rs) → EnterR r B.bk (mkOd B.next h b p q sh) b1 rp → TrigR b1 B'.bk rs → B'.next = B.next + 1 → Q (.ref P) H'
theorem price_some {p : Option Int} (h : p.isSome = true) : p = some (p.getD 0) := by
  cases p with
  | none => cases h
  | some i => rfl
theorem ok_submit (T : Txt K mg A) : FnOk P w K mg base CX0 7 A.f_Bsubmit A.d_Bsubmit ["self", "house", "side", "price", "quantity", "kind", "shown"] (spSubmit A) := by
  refine T.F_Bsubmit.ok sc_Bsubmit (fun vs H Q E h => ?_) (fun cdv Ar outer s H vs Q E hr h => ?_)
  · obtain ⟨_, _, _, _, _, _, _, _, rfl, _⟩ := h
    rfl
  · obtain ⟨F, B, h, sb, r, p, q, sh, rfl, b, inv, hp, hrp, hq1, hq2, h0, h1, h2, k⟩ := h
    refine ⟨_, (pss_cons (ps_expr (pe_call (ok_check_order T) (hr.mono (by decide)) (by rfl) T.g_check_order T.F_check_order.kp T.b_check_order .nil pass0 (pa_cons (pv 2) (pa_cons (pv 3) (pa_cons (pv 4) (pa_cons (pv 5) (pa_cons (pv 6) pa_nil)))))))
      (pss_cons (ps_set (i := 7) sc_Bsubmit.nd rfl (Or.inl rfl) (pe_make T.kO (ok_oinit T) (hr.mono (by decide)) (by rfl) T.mO T.b_Oinit .nil pass0 (pa_cons (pe_meth0 (pv 0) T.cB T.h_Bnew_number (ok_new T) (hr.mono (by decide)) T.b_Bnew_number .nil pass0) (pa_cons (pv 1) (pa_cons (pv 2) (pa_cons (pv 3) (pa_cons (pv 4) (pa_cons (pv 6) pa_nil))))))))
      (pss_cons (ps_set (i := 8) sc_Bsubmit.nd rfl (Or.inl rfl) (pe_meth (pv 0) T.cB T.h_Benter (ok_enter T) (hr.mono (by decide)) T.b_Benter .nil pass0 (pa_cons (pv 7) (pa_cons (pv 5) pa_nil))))
      (pss_one (ps_ret (pe_op op_cat (pe_lst (pa_cons (pv 8) pa_nil)) (pe_meth0 (pv 0) T.cB T.h_Btrigger (ok_trigger T) (hr.mono (by decide)) T.b_Btrigger .nil pass0))))))), ?_⟩
    refine ⟨_, rfl, _, rfl, _, rfl, _, rfl, _, rfl, sb, r, p, q, sh, rfl, hp, hrp, ⟨hq1, by omega⟩, h0, h1, h2, ?_⟩
    refine ⟨_, rfl, B.p, B.dx, _, rfl, b.c.ob, bfs_no_new_number _ _ _ _, B, rfl, b.c, ?_⟩
    have b1 := b.setB (next := B.next + 1) (last := B.last)
    generalize upd H B.p (.ins A.CB B.dx (bfs B.rd B.st (B.next + 1) B.last)) = H1 at b1
    refine ⟨_, rfl, _, rfl, _, rfl, _, rfl, _, rfl, fun x dx nx ndx nex => ?_⟩
    refine ⟨x, dx, B.next, h, sb, p, q, sh, rfl, upd_same, rfl, ?_⟩
    rw [upd_upd]
    have b2 : BookAt A F (upd (upd H1 dx (.own x)) x (.ins A.CO dx (ofs (mkOd B.next h sb p q sh)))) { B with next := B.next + 1, last := B.last } := (b1.new (o := .own x) ndx).new (by rw [upd_ne nex.symm]; exact nx)
    refine ⟨_, rfl, B.p, B.dx, _, rfl, b2.c.ob, bfs_no_enter _ _ _ _, _, rfl, _, rfl, F, { B with next := B.next + 1, last := B.last }, ⟨x, dx, mkOd B.next h sb p q sh⟩, r, rfl, b2, upd_same, b1.same.free nx, b1.c.free nx, ⟨inv.good, inv.stp, Nat.le_trans inv.len (by decide)⟩, ?_, hq2, h0, fun e => price_some (hrp e), fun F' H' B' P rp sF b3 en rep nx3 pp3 => ?_⟩
    · show 0 ≤ q
      omega
    · have inv3 : BInv 1000 B'.bk := BInv.enter en inv (by show 0 ≤ q; omega) h0 (fun e => price_some (hrp e))
      refine tail_ok (A := A) (i := 8) (F0 := F) (F1 := F') (B1 := B') (rp := P) (r := rp) ?_ rfl b3 sF rep inv3 fun F2 H2 B2 P2 rs ps s2 b4 tr hp2 fp2 reps hlen nx4 pp4 => ?_
      · show some (some (V.ref B.p)) = _
        rw [pp3]
      · exact k F2 H2 B2 P2 rp B'.bk rs ps ⟨s2, b4, hp2, fp2, reps, hlen, pp4.trans pp3⟩ en tr (nx4.trans nx3)
def spSubmitS (A : Ad) : Sp := fun vs H Q _ => ∃ (F : Hp) (B : TB) (s : Sd), vs = [.ref B.p, .str s.house, .str (sd s.buy), .int s.trig, pV s.price, .int s.qty] ∧ s.num = B.next ∧ BookAt A F H B ∧ BInv 999 B.bk ∧
  Rng s.trig ∧ (∀ i, s.price = some i → Rng i) ∧ 1 ≤ s.qty ∧ s.qty ≤ 1000 ∧
  ∀ F' H' B' P rs ps, SubOut A F B F' H' B' P ps (⟨s.num, s.house, s.buy, [], [], 0⟩ :: rs) → TrigR { B.bk with stops := B.bk.stops ++ [s] } B'.bk rs → B'.next = B.next + 1 → Q (.ref P) H'
theorem ok_submit_stop (T : Txt K mg A) : FnOk P w K mg base CX0 7 A.f_Bsubmit_stop A.d_Bsubmit_stop ["self", "house", "side", "trigger", "price", "quantity"] (spSubmitS A) := by
  refine T.F_Bsubmit_stop.ok sc_Bsubmit_stop (fun vs H Q E h => ?_) (fun cdv Ar outer s H vs Q E hr h => ?_)
  · obtain ⟨_, _, _, rfl, _⟩ := h
    rfl
  · obtain ⟨F, B, z, rfl, hz, b, inv, ht, hp, hq1, hq2, k⟩ := h
    refine ⟨_, (pss_cons (ps_expr (pe_call (ok_check_stop T) (hr.mono (by decide)) (by rfl) T.g_check_stop T.F_check_stop.kp T.b_check_stop .nil pass0 (pa_cons (pv 2) (pa_cons (pv 3) (pa_cons (pv 4) (pa_cons (pv 5) pa_nil))))))
      (pss_cons (ps_set (i := 6) sc_Bsubmit_stop.nd rfl (Or.inl rfl) (pe_make T.kS (ok_sinit T) (hr.mono (by decide)) (by rfl) T.mS T.b_Sinit .nil pass0 (pa_cons (pe_meth0 (pv 0) T.cB T.h_Bnew_number (ok_new T) (hr.mono (by decide)) T.b_Bnew_number .nil pass0) (pa_cons (pv 1) (pa_cons (pv 2) (pa_cons (pv 3) (pa_cons (pv 4) (pa_cons (pv 5) pa_nil))))))))
      (pss_cons (ps_expr (pe_bm PySem.F.plainAttrs_list PySem.F.slot_list_append PySem.F.type_list_append mt_append (pe_fld (pv 0) rfl) (pa_cons (pv 6) pa_nil)))
      (pss_cons (ps_set (i := 7) sc_Bsubmit_stop.nd rfl (Or.inl rfl) (pe_make T.kR (ok_rinit T) (hr.mono (by decide)) (by rfl) T.mR T.b_Rinit .nil pass0 (pa_cons (pv 6) (pa_cons (pe_lst pa_nil) (pa_cons (pe_lst pa_nil) (pa_cons pe_int pa_nil))))))
      (pss_one (ps_ret (pe_op op_cat (pe_lst (pa_cons (pv 7) pa_nil)) (pe_meth0 (pv 0) T.cB T.h_Btrigger (ok_trigger T) (hr.mono (by decide)) T.b_Btrigger .nil pass0)))))))), ?_⟩
    refine ⟨_, rfl, _, rfl, _, rfl, _, rfl, z.buy, z.trig, z.price, z.qty, rfl, ht, hp, ⟨hq1, by omega⟩, ?_⟩
    refine ⟨_, rfl, B.p, B.dx, _, rfl, b.c.ob, bfs_no_new_number _ _ _ _, B, rfl, b.c, ?_⟩
    have b1 := b.setB (next := B.next + 1) (last := B.last)
    generalize upd H B.p (.ins A.CB B.dx (bfs B.rd B.st (B.next + 1) B.last)) = H1 at b1
    refine ⟨_, rfl, _, rfl, _, rfl, _, rfl, _, rfl, fun x dx nx ndx nex => ?_⟩
    refine ⟨x, dx, z, by rw [hz]; rfl, upd_same, rfl, ?_⟩
    rw [upd_upd]
    have b2 : BookAt A F (upd (upd H1 dx (.own x)) x (.ins A.CS dx (sfs z))) { B with next := B.next + 1, last := B.last } := (b1.new (o := .own x) ndx).new (by rw [upd_ne nex.symm]; exact nx)
    have hz2 : SAt A (upd (upd H1 dx (.own x)) x (.ins A.CS dx (sfs z))) ⟨x, dx, z⟩ := upd_same
    generalize upd (upd H1 dx (.own x)) x (.ins A.CS dx (sfs z)) = H2 at b2 hz2
    have hl : (B.ss.map TS.ref).length < sizeLine := by
      have h1 := inv.len
      have h2 : B.bk.stops.length = B.ss.length := List.length_map ..
      rw [List.length_map]
      exact Nat.lt_of_le_of_lt (show B.ss.length ≤ 999 by omega) (by decide)
    refine ⟨_, rfl, B.p, A.CB, B.dx, _, _, rfl, b2.c.ob, T.cB, T.nB_stops, bfs_stops _ _ _ _, .inl ⟨rfl, _, SqL.of b2.c.st⟩, _, rfl, B.st, _, _, rfl, rfl, b2.c.st, hl, ?_⟩
    have b3 : BookAt A F (upd H2 B.st (.lst ((B.ss ++ [(⟨x, dx, z⟩ : TS)]).map TS.ref))) { B with next := B.next + 1, last := B.last, ss := B.ss ++ [(⟨x, dx, z⟩ : TS)] } := b2.addS hz2 (b1.same.free nx)
    have hz3 : SAt A (upd H2 B.st (.lst ((B.ss ++ [(⟨x, dx, z⟩ : TS)]).map TS.ref))) ⟨x, dx, z⟩ := (upd_ne (ne_of hz2 b2.c.st ins_ne_lst)).trans hz2
    have eH : upd H2 B.st (.lst (B.ss.map TS.ref ++ [V.ref x])) = upd H2 B.st (.lst ((B.ss ++ [(⟨x, dx, z⟩ : TS)]).map TS.ref)) := by
      rw [List.map_append]
      rfl
    rw [eH]
    generalize upd H2 B.st (.lst ((B.ss ++ [(⟨x, dx, z⟩ : TS)]).map TS.ref)) = H3 at b3 hz3
    generalize hB3 : ({ B with next := B.next + 1, last := B.last, ss := B.ss ++ [(⟨x, dx, z⟩ : TS)] } : TB) = B3 at b3
    refine ⟨_, rfl, Nat.zero_le _, fun fl hfl => ⟨Nat.zero_le _, fun rm hrm => fun y dy ny ndy ney => ?_⟩⟩
    have hrm0 : H3 rm = none := by rwa [upd_ne (show rm ≠ fl from fun e => by rw [e, upd_same] at hrm; cases hrm)] at hrm
    have flrm : fl ≠ rm := fun e => by rw [← e, upd_same] at hrm; cases hrm
    have b4 := (b3.new (o := .lst []) hfl).new (o := .lst []) hrm
    have hz4 : SAt A (upd (upd H3 fl (.lst [])) rm (.lst [])) ⟨x, dx, z⟩ := (upd_ne (ne_of_none hz3 hrm0)).trans ((upd_ne (ne_of_none hz3 hfl)).trans hz3)
    have h4f : upd (upd H3 fl (.lst [])) rm (.lst []) fl = some (.lst []) := (upd_ne flrm).trans upd_same
    have h4r : upd (upd H3 fl (.lst [])) rm (.lst []) rm = some (.lst []) := upd_same
    have nf4 : ¬ B3.foot fl := b3.c.free hfl
    have nr4 : ¬ B3.foot rm := b3.c.free hrm0
    have Ffl : F fl = none := b3.same.free hfl
    have Frm : F rm = none := b3.same.free hrm0
    generalize upd (upd H3 fl (.lst [])) rm (.lst []) = H4 at b4 hz4 h4f h4r ny ndy
    have xy : x ≠ y := ne_of_none hz4 ny
    have xdy : x ≠ dy := ne_of_none hz4 ndy
    refine ⟨y, dy, x, fl, rm, z.num, z.house, z.buy, 0, rfl, upd_same, SAt.told (t := ⟨x, dx, z⟩) T ((upd_ne xy).trans ((upd_ne xdy).trans hz4)), xy.symm, rfl, ?_⟩
    rw [upd_upd]
    have b5 := (b4.frz h4f nf4).frz h4r nr4
    have b6 : BookAt A (upd (upd F fl (.lst [])) rm (.lst [])) (upd (upd H4 dy (.own y)) y (.ins A.CR dy (rfs z.num z.house z.buy fl rm 0))) B3 := (b5.new (o := .own y) ndy).new (by rw [upd_ne ney.symm]; exact ny)
    have b7 := b6.frz (a := y) upd_same (b4.c.free ny)
    have p3 : B3.p = B.p := by rw [← hB3]
    have yfl : fl ≠ y := ne_of_none h4f ny
    have yrm : rm ≠ y := ne_of_none h4r ny
    have sF : Same F (upd (upd (upd F fl (.lst [])) rm (.lst [])) y (.ins A.CR dy (rfs z.num z.house z.buy fl rm 0))) :=
      ((Same.newH Ffl).trans (Same.newH (by rw [upd_ne flrm.symm]; exact Frm))).trans (Same.newH (b5.same.free ny))
    have bk3 : B3.bk = { B.bk with stops := B.bk.stops ++ [z] } := by
      rw [← hB3]
      show (⟨B.bk.L, (B.ss ++ [(⟨x, dx, z⟩ : TS)]).map (·.d), B.last⟩ : Bk) = _
      rw [List.map_append]
      rfl
    have inv3 : BInv 1000 B3.bk := by
      rw [bk3]
      refine ⟨inv.good, fun u hu => ?_, ?_⟩
      · rcases List.mem_append.mp hu with hu | hu
        · exact inv.stp u hu
        · rw [List.mem_singleton.mp hu]
          exact ⟨hq1, hq2⟩
      · have h1 := inv.len
        show (B.bk.L true).length + (B.bk.L false).length + (B.bk.stops ++ [z]).length ≤ 1000
        rw [List.length_append, List.length_singleton]
        omega
    refine tail_ok (A := A) (i := 7) (F0 := F) (B1 := B3) (rp := y) (r := ⟨z.num, z.house, z.buy, [], [], 0⟩) ?_ rfl b7 sF ⟨dy, fl, rm, [], ⟨upd_same, ?_, ?_, fun q hq => (nomatch hq), rfl⟩, b4.same.free ny, Ffl, Frm, fun q hq => (nomatch hq)⟩ inv3 fun F2 H5 B2 P2 rs ps s2 b8 tr hp2 fp2 reps hlen nx4 pp4 => ?_
    · show some (some (V.ref B.p)) = _
      rw [p3]
    · rw [upd_ne yfl, upd_ne flrm, upd_same]
      rfl
    · rw [upd_ne yrm, upd_same]
      rfl
    · rw [bk3] at tr
      refine k F2 H5 B2 P2 rs ps ⟨s2, b8, hp2, fp2, reps, hlen, pp4.trans p3⟩ tr (nx4.trans ?_)
      rw [← hB3]
end
end K29
end

section
set_option Elab.async false
set_option maxRecDepth 100000
set_option maxHeartbeats 4000000
set_option linter.unusedVariables false
/-! Book: cancel, amend -/
namespace K29
open PySem L2
def rmB (b : Bk) (s : Bool) (n : Int) : Bk := { b with L := fun x => if x = s then rmv n (b.L x) else b.L x }
def cutB (b : Bk) (s : Bool) (n : Int) (d : Od) : Bk := { b with L := fun x => if x = s then setN n d (b.L x) else b.L x }
theorem newL_bk {B : TB} {s : Bool} {k : Addr} {n : Int} : (B.newL s k ((B.os s).filter fun u => !decide (u.d.num = n))).bk = rmB B.bk s n := by
  show (⟨fun x => (if x = s then (B.os s).filter fun u => !decide (u.d.num = n) else B.os x).map (·.d), _, _⟩ : Bk) = ⟨fun x => if x = s then rmv n ((B.os x).map (·.d)) else (B.os x).map (·.d), _, _⟩
  congr 1
  funext x
  by_cases h : x = s
  · rw [if_pos h, if_pos h, h]
    unfold rmv
    rw [List.filter_map]
    rfl
  · rw [if_neg h, if_neg h]
section
variable {A : Ad} {F H : Hp} {B : TB}
theorem BookAt.rem (b : BookAt A F H B) {s : Bool} {n : Int} {k : Addr} (hk : H k = none) : BookAt A F (upd (upd H k (.lst (((B.os s).filter fun u => !decide (u.d.num = n)).map TO.ref))) B.rd (.dK (sides fun x => if x = s then k else B.l x))) (B.newL s k ((B.os s).filter fun u => !decide (u.d.num = n))) :=
  (b.new hk).newL upd_same (b.c.free hk) (b.same.free hk) List.filter_sublist
theorem rmB_inv {N : Nat} {b : Bk} {s : Bool} {n : Int} (i : BInv (N + 1) b) {o : Od} (ho : o ∈ b.L s) (hn : o.num = n) : BInv N (rmB b s n) := by
  refine ⟨fun r f hf => ?_, i.stp, ?_⟩
  · have hf' : f ∈ if r = s then rmv n (b.L r) else b.L r := hf
    split at hf'
    · exact i.good r f (mem_rmv.mp hf').1
    · exact i.good r f hf'
  · have h1 := i.len
    rw [len_two b.L s] at h1
    rw [len_two (rmB b s n).L s]
    have e1 : (rmB b s n).L s = rmv n (b.L s) := if_pos rfl
    have e2 : (rmB b s n).L (!s) = b.L (!s) := if_neg (not_ne s)
    rw [e1, e2]
    have := rmv_len1 ho hn
    show _ + _ + b.stops.length ≤ N
    omega
end
section
variable {P : Program} {w : World} {K : PySem.W.Frag} {mg : Str → Option Value} {base : Heap} {A : Ad}
def spCancel (A : Ad) : Sp := fun vs H Q _ => ∃ (F : Hp) (B : TB) (n : Int) (h : Str), vs = [.ref B.p, .int n, .str h] ∧ BookAt A F H B ∧ BInv 1000 B.bk ∧
  ((∃ s ∈ B.ss, s.d.num = n ∧ s.d.house = h ∧ (∀ u ∈ B.ss, u.d.num = n → u = s) ∧ ∀ H' B', BookAt A F H' B' → B'.bk = { B.bk with stops := rmvS n B.bk.stops } → B'.next = B.next → B'.p = B.p → Q (.int s.d.qty) H')
  ∨ ((∀ u ∈ B.ss, u.d.num ≠ n) ∧ ∃ (sb : Bool) (t : TO), t ∈ B.os sb ∧ t.d.num = n ∧ t.d.house = h ∧ t.d.buy = sb ∧ (∀ r, ∀ u ∈ B.os r, u.d.num = n → u = t) ∧ ∀ H' B', BookAt A F H' B' → B'.bk = rmB B.bk sb n → B'.next = B.next → B'.p = B.p → Q (.int t.d.left) H'))
theorem ok_cancel (T : Txt K mg A) : FnOk P w K mg base CX0 2 A.f_Bcancel A.d_Bcancel ["self", "number", "house"] (spCancel A) := by
  refine T.F_Bcancel.ok sc_Bcancel (fun vs H Q E h => ?_) (fun cdv Ar outer s H vs Q E hr h => ?_)
  · obtain ⟨_, _, _, _, rfl, _⟩ := h
    rfl
  · obtain ⟨F, B, n, h, rfl, b, inv, kk⟩ := h
    refine ⟨_, (pss_cons (ps_for PassesOwn.never rfl (pi_list (pe_fld (pv 0) rfl)) (pg_name (i := 3) sc_Bcancel.nd rfl (Or.inl rfl)) (pss_one (ps_if (pt_cmpR op_eq (pe_fld (pv 3) rfl) (pv 1) (nomark _)) (pss_cons (ps_if (pt_cmpR op_ne (pe_fld (pv 3) rfl) (pv 2) (nomark _)) pss_never pss_nil)
      (pss_cons (ps_fld (pv 0) (pe_lc (own := [("kept", 4)]) (g := gName 4) (tt := tTest (tOp rNe (tFld K (tVar 4) "number") (tVar 1))) (te := tVar 4) rfl sc_Bcancel.nd (pi_list (pe_fld (pv 0) rfl)) (blkOk_by (N := ["self", "number", "house", "stop", "kept", "order"]) (sc := defScope s_Bcancel) (by decide +kernel)) (fun _ _ _ _ _ => pg_name (i := 4) sc_Bcancel.nd rfl (Or.inl rfl)) (fun _ _ _ _ _ => pts_one (pt_cmpR op_ne (pe_fld (pv 4) rfl) (pv 1) (nomark _))) (fun _ _ _ _ _ => pv 4)) rfl)
      (pss_one (ps_ret (pe_fld (pv 3) rfl))))) pss_nil)))
      (pss_cons (ps_set (i := 5) sc_Bcancel.nd rfl (Or.inl rfl) (pe_meth (pv 0) T.cB T.h_Bowned (ok_owned T) (hr.mono (by decide)) T.b_Bowned .nil pass0 (pa_cons (pv 1) (pa_cons (pv 2) pa_nil))))
      (pss_cons (ps_expr (pe_meth (pv 0) T.cB T.h_Bremove (ok_remove T) (hr.mono (by decide)) T.b_Bremove .nil pass0 (pa_cons (pv 5) pa_nil)))
      (pss_one (ps_ret (pe_fld (pv 5) rfl)))))), ?_⟩
    have c := b.c
    have hss : B.ss.length ≤ 1000 := by
      have i2 := inv.len
      have i3 : B.bk.stops.length = B.ss.length := List.length_map ..
      omega
    refine ⟨_, rfl, B.p, A.CB, B.dx, _, _, rfl, c.ob, T.cB, T.nB_stops, bfs_stops _ _ _ _, B.st, rfl, ⟨_, SqL.of c.st⟩, for_list (K := K) (a := B.st) (xs := B.ss.map TS.ref)
      (fun i σ H' => ∃ v, σ = [some (.ref B.p), some (.int n), some (.str h), v, none, none] ∧ H' = H ∧ ∀ u ∈ B.ss.take i, u.d.num ≠ n) ⟨none, rfl, rfl, fun u hu => by simp at hu⟩ (fun i σ H' _ ⟨_, _, e, _⟩ => by rw [e]; exact SqL.of c.st) ?_ ?_⟩
    · rintro i x σ H' hi ⟨v, rfl, rfl, hno⟩
      obtain ⟨s, hs, rfl⟩ := TS.ref_ix hi
      have hsm := List.mem_of_getElem? hs
      have hsat := c.s s hsm
      refine ⟨_, rfl, s.a, A.CS, s.dx, _, _, rfl, hsat, T.cS, T.nS_number, sfs_number _, _, rfl, rfl, _, rfl, ?_⟩
      rw [int_eq]
      by_cases hn : s.d.num = n
      · refine iteTe (decide_eq_true hn) ?_
        rcases kk with ⟨s0, hs0, hn0, hh0, huq, k⟩ | ⟨hnone, _⟩
        · have e0 := huq s hsm hn
          subst e0
          refine ⟨_, rfl, s.a, A.CS, s.dx, _, _, rfl, hsat, T.cS, T.nS_house, sfs_house _, _, rfl, rfl, _, rfl, iteFe (by rw [str_eq, hh0, decide_eq_true rfl]; rfl) ?_⟩
          refine ⟨_, rfl, B.p, A.CB, B.dx, _, _, rfl, c.ob, T.cB, T.nB_stops, bfs_stops _ _ _ _, B.st, rfl, ⟨_, SqL.of c.st⟩, fun D hD => ?_⟩
          have cD : ∀ o, BCells A (upd H' D o) B := fun o => c.sameH (Same.newH hD)
          refine lc_list (K := K) (a := B.st) (xs := B.ss.map TS.ref) (fun i H2 => H2 = upd H' D (.lst (((B.ss.take i).filter fun u => !decide (u.d.num = n)).map TS.ref))) rfl (fun i H2 _ e => by rw [e]; exact SqL.of (cD _).st) ?_ ?_
          · rintro i x H2 hi rfl
            obtain ⟨u, hu, rfl⟩ := TS.ref_ix hi
            have hou := (cD (.lst (((B.ss.take i).filter fun u => !decide (u.d.num = n)).map TS.ref))).s u (List.mem_of_getElem? hu)
            refine ⟨rfl, ?_⟩
            refine ⟨_, rfl, u.a, A.CS, u.dx, _, _, rfl, hou, T.cS, T.nS_number, sfs_number _, _, rfl, rfl, _, rfl, ?_⟩
            rw [int_eq, take_snoc hu, List.filter_append, List.filter_cons]
            by_cases hn : u.d.num = n
            · rw [decide_eq_true hn]
              refine iteF ?_
              rw [if_neg (by simp), List.filter_nil, List.append_nil]
            · rw [decide_eq_false hn]
              refine iteT ?_
              refine ⟨_, rfl, _, upd_same, ?_, ?_⟩
              · rw [List.length_map]
                exact Nat.lt_of_le_of_lt (Nat.le_trans (List.length_filter_le _ _) (by rw [List.length_take]; exact Nat.le_trans (Nat.min_le_right _ _) hss)) (show 1000 < sizeLine by decide)
              · rw [upd_upd, if_pos (by simp), List.filter_nil, List.map_append]
                rfl
          · rintro H2 rfl
            rw [List.length_map, List.take_length]
            refine ⟨_, rfl, B.p, A.CB, B.dx, _, rfl, (cD _).ob, T.cB, T.nB_stops, (by show 4 < 1000; decide), ?_⟩
            rw [bfs_put_stops]
            have bD := b.new (o := .lst ((B.ss.filter fun u => !decide (u.d.num = n)).map TS.ref)) hD
            have b3 := bD.setS (st := D) (ss := B.ss.filter fun u => !decide (u.d.num = n)) upd_same (c.free hD) (b.same.free hD) (fun t ht => (List.mem_filter.mp ht).1)
            have spne : s.a ≠ B.p := ne_of hsat c.ob (ins_ne sfs_ne_bfs)
            refine ⟨_, rfl, s.a, A.CS, s.dx, _, _, rfl, (upd_ne spne).trans ((cD _).s s hsm), T.cS, T.nS_quantity, sfs_quantity _, ?_⟩
            refine k _ _ b3 ?_ rfl rfl
            show (⟨B.bk.L, (B.ss.filter fun u => !decide (u.d.num = n)).map (·.d), B.last⟩ : Bk) = _
            rw [rmv_bk]
            rfl
        · exact absurd hn (hnone s hsm)
      · refine iteFe (decide_eq_false hn) ?_
        refine ⟨_, rfl, rfl, fun u hu => ?_⟩
        rw [take_snoc hs] at hu
        rcases List.mem_append.mp hu with hu | hu
        · exact hno u hu
        · rw [List.mem_singleton.mp hu]
          exact hn
    · rintro σ H' ⟨v, rfl, rfl, hno⟩
      rw [List.length_map, List.take_length] at hno
      rcases kk with ⟨s0, hs0, hn0, _⟩ | ⟨_, sb, t, ht, hn, hh, hb, huq, k⟩
      · exact absurd hn0 (hno s0 hs0)
      · subst hn hh hb
        refine ⟨_, rfl, B.p, B.dx, _, rfl, c.ob, bfs_no_owned _ _ _ _, _, rfl, _, rfl, B, t.d.buy, t, rfl, c, ht, huq, fun H2 s2 => ?_⟩
        have b2 := b.sameH s2
        have ot := b2.c.o _ t ht
        refine ⟨_, rfl, B.p, B.dx, _, rfl, b2.c.ob, bfs_no_remove _ _ _ _, _, rfl, B, t, rfl, b2.c, ot, Nat.le_trans (inv.lens _) (by decide), fun kx hkx => ?_⟩
        have b3 := b2.rem (s := t.d.buy) (n := t.d.num) hkx
        refine ⟨_, rfl, t.a, A.CO, t.dx, _, _, rfl, (upd_ne (OAt.rd b2.c ot)).trans ((upd_ne (ne_of_none ot hkx)).trans ot), T.cO, T.nO_left, ofs_left _, ?_⟩
        exact k _ _ b3 newL_bk rfl rfl
theorem setN_at {L1 L2 : List TO} {t : TO} {d : Od} (huq : ∀ u ∈ L1 ++ t :: L2, u.d.num = t.d.num → u = t) (nd : ((L1 ++ t :: L2).map (·.a)).Nodup) : (L1 ++ { t with d := d } :: L2).map (·.d) = setN t.d.num d ((L1 ++ t :: L2).map (·.d)) := by
  rw [List.map_append, List.map_cons, List.nodup_append, List.nodup_cons] at nd
  unfold setN
  rw [List.map_append, List.map_cons, List.map_append, List.map_append, List.map_cons, List.map_cons, if_pos rfl]
  have h1 : ∀ u ∈ L1, u.d.num ≠ t.d.num := fun u hu e => by
    have := huq u (List.mem_append_left _ hu) e
    subst this
    exact nd.2.2 _ (List.mem_map.mpr ⟨u, hu, rfl⟩) _ List.mem_cons_self rfl
  have h2 : ∀ u ∈ L2, u.d.num ≠ t.d.num := fun u hu e => by
    have := huq u (List.mem_append_right _ (List.mem_cons_of_mem _ hu)) e
    subst this
    exact nd.2.1.1 (List.mem_map.mpr ⟨u, hu, rfl⟩)
  have g : ∀ L : List TO, (∀ u ∈ L, u.d.num ≠ t.d.num) → (L.map (·.d)).map (fun o => if o.num = t.d.num then d else o) = L.map (·.d) := fun L h => by
    rw [List.map_map]
    exact List.map_congr_left fun u hu => if_neg (h u hu)
  rw [g L1 h1, g L2 h2]
def spAmend (A : Ad) : Sp := fun vs H Q _ => ∃ (F : Hp) (B : TB) (t : TO) (p q : Int), vs = [.ref B.p, .int t.d.num, .str t.d.house, .int p, .int q] ∧ BookAt A F H B ∧ BInv 1000 B.bk ∧ t ∈ B.os t.d.buy ∧ (∀ r, ∀ u ∈ B.os r, u.d.num = t.d.num → u = t) ∧ Rng p ∧ Rng q ∧ q ≤ 1000 ∧
  (p = t.d.pr ∧ q ≤ t.d.left → ∀ F' H' B' P ps, SubOut A F B F' H' B' P ps [⟨t.d.num, t.d.house, t.d.buy, [], [], q⟩] → B'.bk = cutB B.bk t.d.buy t.d.num (t.d.cut q) → B'.next = B.next → Q (.ref P) H') ∧
  (¬ (p = t.d.pr ∧ q ≤ t.d.left) → ∀ F' H' B' P rp b1 rs ps, SubOut A F B F' H' B' P ps (rp :: rs) → EnterR true (rmB B.bk t.d.buy t.d.num) (mkOd t.d.num t.d.house t.d.buy (some p) q (minI t.d.shown q)) b1 rp → TrigR b1 B'.bk rs → B'.next = B.next → Q (.ref P) H')
theorem ok_amend (T : Txt K mg A) : FnOk P w K mg base CX0 7 A.f_Bamend A.d_Bamend ["self", "number", "house", "price", "quantity"] (spAmend A) := by
  refine T.F_Bamend.ok sc_Bamend (fun vs H Q E h => ?_) (fun cdv Ar outer s H vs Q E hr h => ?_)
  · obtain ⟨_, _, _, _, _, rfl, _⟩ := h
    rfl
  · obtain ⟨F, B, t, p, q, rfl, b, inv, ht, huq, hp, hq, hq2, k1, k2⟩ := h
    refine ⟨_, (pss_cons (ps_if (PW.pt (pw_or (pt_not (pt_val (pe_call (ok_in_range T) (hr.mono (by decide)) (by rfl) T.g_in_range T.F_in_range.kp T.b_in_range .nil pass0 (pa_cons (pv 3) pa_nil)))) (pw_or1 (pt_not (pt_val (pe_call (ok_in_range T) (hr.mono (by decide)) (by rfl) T.g_in_range T.F_in_range.kp T.b_in_range .nil pass0 (pa_cons (pv 4) pa_nil))))))) pss_never pss_nil)
      (pss_cons (ps_set (i := 5) sc_Bamend.nd rfl (Or.inl rfl) (pe_meth (pv 0) T.cB T.h_Bowned (ok_owned T) (hr.mono (by decide)) T.b_Bowned .nil pass0 (pa_cons (pv 1) (pa_cons (pv 2) pa_nil))))
      (Evl.pss_cut (ps_if (PW.pt (pw_and (pt_cmpR op_eq (pv 3) (pe_fld (pv 5) rfl) (nomark _)) (pw_and1 (pt_cmpR op_le (pv 4) (pe_fld (pv 5) rfl) (nomark _))))) (pss_cons (ps_expr (pe_meth (pv 5) T.cO T.h_Oreduce (ok_reduce T) (hr.mono (by decide)) T.b_Oreduce .nil pass0 (pa_cons (pv 4) pa_nil)))
      (pss_one (ps_ret (pe_lst (pa_cons (pe_make T.kR (ok_rinit T) (hr.mono (by decide)) (by rfl) T.mR T.b_Rinit .nil pass0 (pa_cons (pv 5) (pa_cons (pe_lst pa_nil) (pa_cons (pe_lst pa_nil) (pa_cons (pv 4) pa_nil))))) pa_nil))))) pss_nil)
      (pss_cons (ps_expr (pe_meth (pv 0) T.cB T.h_Bremove (ok_remove T) (hr.mono (by decide)) T.b_Bremove .nil pass0 (pa_cons (pv 5) pa_nil)))
      (pss_cons (ps_set (i := 6) sc_Bamend.nd rfl (Or.inl rfl) (pe_make T.kO (ok_oinit T) (hr.mono (by decide)) (by rfl) T.mO T.b_Oinit .nil pass0 (pa_cons (pv 1) (pa_cons (pv 2) (pa_cons (pe_fld (pv 5) rfl) (pa_cons (pv 3) (pa_cons (pv 4) (pa_cons (pe_callB (call_min2 rfl) (by rfl) T.z_min PyProof.Rows.boot_min (pa_cons (pe_fld (pv 5) rfl) (pa_cons (pv 4) pa_nil))) pa_nil))))))))
      (pss_cons (ps_set (i := 7) sc_Bamend.nd rfl (Or.inl rfl) (pe_meth (pv 0) T.cB T.h_Benter (ok_enter T) (hr.mono (by decide)) T.b_Benter .nil pass0 (pa_cons (pv 6) (pa_cons pe_str pa_nil))))
      (pss_one (ps_ret (pe_op op_cat (pe_lst (pa_cons (pv 7) pa_nil)) (pe_meth0 (pv 0) T.cB T.h_Btrigger (ok_trigger T) (hr.mono (by decide)) T.b_Btrigger .nil pass0)))))))))), ?_⟩
    have c := b.c
    refine ⟨_, rfl, p, rfl, hp, _, rfl, ?_⟩
    refine iteF ?_
    refine ⟨_, rfl, q, rfl, hq, _, rfl, ?_⟩
    refine iteF ?_
    refine ⟨_, rfl, B.p, B.dx, _, rfl, c.ob, bfs_no_owned _ _ _ _, _, rfl, _, rfl, B, t.d.buy, t, rfl, c, ht, huq, fun H2 s2 => ?_⟩
    have b2 := b.sameH s2
    have c2 := b2.c
    have ot := c2.o _ t ht
    obtain ⟨gt, _⟩ := inv.good t.d.buy t.d (List.mem_map.mpr ⟨t, ht, rfl⟩)
    have hpr : t.d.price = some t.d.pr := gt.2.2.2
    have hpq : decide (V.int p = pV t.d.price) = decide (p = t.d.pr) := by
      rw [hpr]
      exact int_eq p t.d.pr
    refine ⟨fun σ' H'' => σ' = [some (.ref B.p), some (.int t.d.num), some (.str t.d.house), some (.int p), some (.int q), some (.ref t.a), none, none] ∧ H'' = H2 ∧ ¬ (p = t.d.pr ∧ q ≤ t.d.left), ?_, ?_⟩
    · refine ⟨_, rfl, _, rfl, t.a, A.CO, t.dx, _, _, rfl, ot, T.cO, T.nO_price, ofs_price _, (by rw [hpr]; rfl), _, rfl, ?_⟩
      rw [hpq]
      by_cases hpp : p = t.d.pr
      case neg =>
        refine iteFe (decide_eq_false hpp) (iteF ?_)
        exact ⟨rfl, rfl, fun z => hpp z.1⟩
      refine iteTe (decide_eq_true hpp) ?_
      refine ⟨_, rfl, _, rfl, t.a, A.CO, t.dx, _, _, rfl, ot, T.cO, T.nO_left, ofs_left _, _, _, rfl, rfl, _, rfl, ?_⟩
      show if decide (q ≤ t.d.left) = true then _ else _
      by_cases hql : q ≤ t.d.left
      case neg =>
        refine iteFe (decide_eq_false hql) ?_
        exact ⟨rfl, rfl, fun z => hql z.2⟩
      refine iteTe (decide_eq_true hql) ?_
      refine ⟨_, rfl, t.a, t.dx, _, rfl, ot, ofs_no_reduce _, _, rfl, t, q, rfl, ot, ?_⟩
      obtain ⟨L1, L2, eL⟩ := List.append_of_mem ht
      have b3 := b2.setO eL (t.d.cut q)
      have nd := c.nd t.d.buy
      rw [eL] at nd
      have eN := setN_at (d := t.d.cut q) (fun u hu => huq t.d.buy u (by rw [eL]; exact hu)) nd
      have ot3 : OAt A (upd H2 t.a (.ins A.CO t.dx (ofs (t.d.cut q)))) ⟨t.a, t.dx, t.d.cut q⟩ := upd_same
      generalize hB3 : B.setL t.d.buy (L1 ++ { t with d := t.d.cut q } :: L2) = B3 at b3
      have bk3 : B3.bk = cutB B.bk t.d.buy t.d.num (t.d.cut q) := by
        rw [← hB3]
        show (⟨fun x => (if x = t.d.buy then L1 ++ { t with d := t.d.cut q } :: L2 else B.os x).map (·.d), _, _⟩ : Bk) = ⟨fun x => if x = t.d.buy then setN t.d.num (t.d.cut q) ((B.os x).map (·.d)) else (B.os x).map (·.d), _, _⟩
        congr 1
        funext x
        by_cases hx : x = t.d.buy
        · rw [if_pos hx, if_pos hx, hx, eL]
          exact eN
        · rw [if_neg hx, if_neg hx]
      have p3 : B3.p = B.p := by rw [← hB3]; rfl
      have n3 : B3.next = B.next := by rw [← hB3]; rfl
      generalize upd H2 t.a (.ins A.CO t.dx (ofs (t.d.cut q))) = H3 at b3 ot3
      refine ⟨_, rfl, Nat.zero_le _, fun fl hfl => ⟨Nat.zero_le _, fun rm hrm => ⟨_, rfl, fun y dy ny ndy ney => ?_⟩⟩⟩
      have hrm0 : H3 rm = none := by rwa [upd_ne (show rm ≠ fl from fun e => by rw [e, upd_same] at hrm; cases hrm)] at hrm
      have flrm : fl ≠ rm := fun e => by rw [← e, upd_same] at hrm; cases hrm
      have b4 := (b3.new (o := .lst []) hfl).new (o := .lst []) hrm
      have hz4 : OAt A (upd (upd H3 fl (.lst [])) rm (.lst [])) ⟨t.a, t.dx, t.d.cut q⟩ := (upd_ne (ne_of_none ot3 hrm0)).trans ((upd_ne (ne_of_none ot3 hfl)).trans ot3)
      have h4f : upd (upd H3 fl (.lst [])) rm (.lst []) fl = some (.lst []) := (upd_ne flrm).trans upd_same
      have h4r : upd (upd H3 fl (.lst [])) rm (.lst []) rm = some (.lst []) := upd_same
      have nf4 : ¬ B3.foot fl := b3.c.free hfl
      have nr4 : ¬ B3.foot rm := b3.c.free hrm0
      have Ffl : F fl = none := b3.same.free hfl
      have Frm : F rm = none := b3.same.free hrm0
      generalize upd (upd H3 fl (.lst [])) rm (.lst []) = H4 at b4 hz4 h4f h4r ny ndy
      have xy : t.a ≠ y := ne_of_none hz4 ny
      have xdy : t.a ≠ dy := ne_of_none hz4 ndy
      refine ⟨y, dy, t.a, fl, rm, t.d.num, t.d.house, t.d.buy, q, rfl, upd_same, OAt.told (t := ⟨t.a, t.dx, t.d.cut q⟩) T ((upd_ne xy).trans ((upd_ne xdy).trans hz4)), xy.symm, ?_⟩
      rw [upd_upd]
      have b5 := (b4.frz h4f nf4).frz h4r nr4
      have b6 : BookAt A (upd (upd F fl (.lst [])) rm (.lst [])) (upd (upd H4 dy (.own y)) y (.ins A.CR dy (rfs t.d.num t.d.house t.d.buy fl rm q))) B3 := (b5.new (o := .own y) ndy).new (by rw [upd_ne ney.symm]; exact ny)
      have b7 := b6.frz (a := y) upd_same (b4.c.free ny)
      have yfl : fl ≠ y := ne_of_none h4f ny
      have yrm : rm ≠ y := ne_of_none h4r ny
      have sF : Same F (upd (upd (upd F fl (.lst [])) rm (.lst [])) y (.ins A.CR dy (rfs t.d.num t.d.house t.d.buy fl rm q))) :=
        ((Same.newH Ffl).trans (Same.newH (by rw [upd_ne flrm.symm]; exact Frm))).trans (Same.newH (b5.same.free ny))
      refine ⟨rfl, (by show 1 ≤ sizeLine; decide), fun P2 hP2 => ?_⟩
      have b8 := (b7.new (o := .lst [.ref y]) hP2).frz (a := P2) upd_same (b7.c.free hP2)
      have sF2 := b7.same.free hP2
      refine k1 ⟨hpp, hql⟩ _ _ B3 P2 [y] ⟨sF.trans (Same.newH sF2), b8, upd_same, sF.free sF2, ⟨RepIn.mono (Same.newH sF2) ⟨dy, fl, rm, [], ⟨upd_same, ?_, ?_, fun q hq => (nomatch hq), rfl⟩, b4.same.free ny, Ffl, Frm, fun q hq => (nomatch hq)⟩, trivial⟩, by simp, p3⟩ bk3 n3
      · rw [upd_ne yfl, upd_ne flrm, upd_same]
        rfl
      · rw [upd_ne yrm, upd_same]
        rfl
    · rintro _ _ ⟨rfl, rfl, hn⟩
      refine ⟨_, rfl, B.p, B.dx, _, rfl, c2.ob, bfs_no_remove _ _ _ _, _, rfl, B, t, rfl, c2, ot, Nat.le_trans (inv.lens _) (by decide), fun kx hkx => ?_⟩
      have b3 := b2.rem (s := t.d.buy) (n := t.d.num) hkx
      have ot3 := (upd_ne (OAt.rd c2 ot) (o := .dK (sides fun x => if x = t.d.buy then kx else B.l x))).trans ((upd_ne (o := .lst (((B.os t.d.buy).filter fun u => !decide (u.d.num = t.d.num)).map TO.ref)) (ne_of_none ot hkx)).trans ot)
      generalize hB3 : B.newL t.d.buy kx ((B.os t.d.buy).filter fun u => !decide (u.d.num = t.d.num)) = B3 at b3
      have bk3 : B3.bk = rmB B.bk t.d.buy t.d.num := by rw [← hB3]; exact newL_bk
      have p3 : B3.p = B.p := by rw [← hB3]; rfl
      have n3 : B3.next = B.next := by rw [← hB3]; rfl
      rename_i H2
      generalize upd (upd H2 kx (.lst (((B.os t.d.buy).filter fun u => !decide (u.d.num = t.d.num)).map TO.ref))) B.rd (.dK (sides fun x => if x = t.d.buy then kx else B.l x)) = H3 at b3 ot3
      have inv3 : BInv 999 B3.bk := by
        rw [bk3]
        exact rmB_inv inv (List.mem_map.mpr ⟨t, ht, rfl⟩) rfl
      refine ⟨_, rfl, _, rfl, _, rfl, t.a, A.CO, t.dx, _, _, rfl, ot3, T.cO, T.nO_side, ofs_side _, _, rfl, _, rfl, _, rfl, t.a, A.CO, t.dx, _, _, rfl, ot3, T.cO, T.nO_shown, ofs_shown _, _, rfl, _, _, rfl, fun x dx nx ndx nex => ?_⟩
      refine ⟨x, dx, t.d.num, t.d.house, t.d.buy, some p, q, minI t.d.shown q, rfl, upd_same, rfl, ?_⟩
      rw [upd_upd]
      have b4 : BookAt A F (upd (upd H3 dx (.own x)) x (.ins A.CO dx (ofs (mkOd t.d.num t.d.house t.d.buy (some p) q (minI t.d.shown q))))) B3 := (b3.new (o := .own x) ndx).new (by rw [upd_ne nex.symm]; exact nx)
      have h0 : 0 ≤ minI t.d.shown q := by
        have h1 := gt.2.2.1
        have h2 := hq.1
        unfold minI
        split <;> omega
      refine ⟨_, rfl, B.p, B3.dx, _, rfl, by rw [← p3]; exact b4.c.ob, bfs_no_enter _ _ _ _, _, rfl, F, B3, ⟨x, dx, mkOd t.d.num t.d.house t.d.buy (some p) q (minI t.d.shown q)⟩, true, by rw [p3]; rfl, b4, upd_same, b3.same.free nx, b3.c.free nx, ⟨inv3.good, inv3.stp, Nat.le_trans inv3.len (by decide)⟩, ?_, hq2, h0, fun e => rfl, fun F' H' B' P rp sF b5 en rep nx3 pp3 => ?_⟩
      · show 0 ≤ q
        have := hq.1
        omega
      · have inv5 : BInv 1000 B'.bk := BInv.enter en inv3 (by have := hq.1; show 0 ≤ q; omega) h0 (fun e => rfl)
        refine tail_ok (A := A) (i := 7) (F0 := F) (F1 := F') (B1 := B') (rp := P) (r := rp) ?_ rfl b5 sF rep inv5 fun F2 H4 B2 P2 rs ps s2 b6 tr hp2 fp2 reps hlen nx4 pp4 => ?_
        · show some (some (V.ref B.p)) = _
          rw [pp3, p3]
        · refine k2 hn F2 H4 B2 P2 rp B'.bk rs ps ⟨s2, b6, hp2, fp2, reps, hlen, pp4.trans (pp3.trans p3)⟩ ?_ tr (nx4.trans (nx3.trans n3))
          rw [← bk3]
          exact en
end
end K29
end

section
set_option Elab.async false
set_option maxRecDepth 100000
set_option maxHeartbeats 4000000
set_option linter.unusedVariables false
/-! the law's own orders in the heap; the small defs of the law -/
namespace K29
open PySem L2
structure TL where
  a : Addr
  d : Od
def TL.ref (t : TL) : V := .ref t.a
def lrow (o : Od) : List V := [.int o.num, .str o.house, .str (sd o.buy), pV o.price, .int o.left, .int o.vis, .int o.shown]
def LAt (H : Hp) (t : TL) : Prop := H t.a = some (.lst (lrow t.d))
structure OCells (H : Hp) (lo : Addr) (os : List TL) : Prop where
  l : H lo = some (.lst (os.map TL.ref))
  o : ∀ t ∈ os, LAt H t
  ne : ∀ t ∈ os, t.a ≠ lo
def oft (lo : Addr) (os : List TL) (a : Addr) : Prop := a = lo ∨ ∃ t ∈ os, a = t.a
structure OrdAt (F H : Hp) (lo : Addr) (os : List TL) : Prop where
  same : Same F H
  out : ∀ a, oft lo os a → F a = none
  c : OCells H lo os
theorem TL.ref_ix {L : List TL} {i : Nat} {x : V} (h : (L.map TL.ref)[i]? = some x) : ∃ t, L[i]? = some t ∧ x = .ref t.a := by
  rw [List.getElem?_map] at h
  cases e : L[i]? with
  | none =>
    rw [e] at h
    cases h
  | some t =>
    rw [e] at h
    exact ⟨t, rfl, (Option.some.inj h).symm⟩
theorem lrow_inj {o u : Od} (h : lrow o = lrow u) : o.num = u.num := by
  unfold lrow at h
  injection h with h1 _
  injection h1
section
variable {F F' H H' : Hp} {lo : Addr} {os : List TL}
theorem OCells.has (c : OCells H lo os) {a : Addr} (h : oft lo os a) : ∃ o, H a = some o := by
  rcases h with rfl | ⟨t, ht, rfl⟩
  · exact ⟨_, c.l⟩
  · exact ⟨_, c.o t ht⟩
theorem OCells.frame (c : OCells H lo os) (h : ∀ a, oft lo os a → H' a = H a) : OCells H' lo os := ⟨(h _ (.inl rfl)).trans c.l, fun t ht => (h _ (.inr ⟨t, ht, rfl⟩)).trans (c.o t ht), c.ne⟩
theorem OCells.up (c : OCells H lo os) {a : Addr} {o : HO} (h : ¬ oft lo os a) : OCells (upd H a o) lo os := c.frame fun b hb => upd_ne fun e => h (e ▸ hb)
theorem OCells.free (c : OCells H lo os) {a : Addr} (h : H a = none) : ¬ oft lo os a := fun hb => by
  obtain ⟨o, e⟩ := c.has hb
  rw [h] at e
  cases e
theorem OCells.sameH (c : OCells H lo os) (s : Same H H') : OCells H' lo os := c.frame fun a ha => by
  obtain ⟨o, e⟩ := c.has ha
  rw [e, s a o e]
theorem OrdAt.up (b : OrdAt F H lo os) {a : Addr} {o : HO} (h : ¬ oft lo os a) (hF : F a = none) : OrdAt F (upd H a o) lo os := ⟨Same.up b.same hF, b.out, b.c.up h⟩
theorem OrdAt.new (b : OrdAt F H lo os) {a : Addr} {o : HO} (h : H a = none) : OrdAt F (upd H a o) lo os := b.up (b.c.free h) (b.same.free h)
theorem OrdAt.sameH (b : OrdAt F H lo os) (s : Same H H') : OrdAt F H' lo os := ⟨b.same.trans s, b.out, b.c.sameH s⟩
theorem OrdAt.frz (b : OrdAt F H lo os) {a : Addr} {o : HO} (h : H a = some o) (hf : ¬ oft lo os a) : OrdAt (upd F a o) H lo os := by
  refine ⟨fun c u e => ?_, fun c hc => ?_, b.c⟩
  · by_cases q : c = a
    · rw [q, upd_same] at e
      rw [q, h]
      exact e
    · rw [upd_ne q] at e
      exact b.same c u e
  · have q : c ≠ a := fun q => hf (by rw [← q]; exact hc)
    rw [upd_ne q]
    exact b.out c hc
theorem OrdAt.foot_of (b : OrdAt F H lo os) {a : Addr} {o : HO} (h : F a = some o) : ¬ oft lo os a := fun q => by
  rw [b.out a q] at h
  cases h
theorem OCells.at_ (c : OCells H lo os) : OrdAt (hide (oft lo os) H) H lo os := ⟨hide_same, fun _ h => hide_in h, c⟩
theorem OrdAt.part (b : OrdAt F H lo os) {L : List TL} (h : ∀ t ∈ L, t ∈ os) : OrdAt F (upd H lo (.lst (L.map TL.ref))) lo L :=
  ⟨Same.up b.same (b.out _ (.inl rfl)), fun a ha => by
    rcases ha with e | ⟨t, ht, e⟩
    · exact b.out a (.inl e)
    · exact b.out a (.inr ⟨t, h t ht, e⟩), upd_same, fun t ht => (upd_ne (b.c.ne t (h t ht))).trans (b.c.o t (h t ht)), fun t ht => b.c.ne t (h t ht)⟩
theorem OrdAt.snoc (b : OrdAt F H lo os) {t : TL} (ht : LAt H t) (hne : t.a ≠ lo) (hF : F t.a = none) : OrdAt F (upd H lo (.lst (os.map TL.ref ++ [t.ref]))) lo (os ++ [t]) :=
  ⟨Same.up b.same (b.out _ (.inl rfl)), fun a ha => by
    rcases ha with e | ⟨u, hu, e⟩
    · exact b.out a (.inl e)
    · rcases List.mem_append.mp hu with hu | hu
      · exact b.out a (.inr ⟨u, hu, e⟩)
      · rw [e, List.mem_singleton.mp hu]
        exact hF, by rw [List.map_append]; exact upd_same, fun u hu => by
    rcases List.mem_append.mp hu with hu | hu
    · exact (upd_ne (b.c.ne u hu)).trans (b.c.o u hu)
    · rw [List.mem_singleton.mp hu]
      exact (upd_ne hne).trans ht, fun u hu => by
    rcases List.mem_append.mp hu with hu | hu
    · exact b.c.ne u hu
    · rw [List.mem_singleton.mp hu]
      exact hne⟩
/-- the others are apart -/
theorem OCells.apart (c : OCells H lo os) {t u : TL} (ht : t ∈ os) (hu : u ∈ os) (hn : u.d.num ≠ t.d.num) : u.a ≠ t.a := fun e => by
  have h1 := c.o t ht
  have h2 := c.o u hu
  unfold LAt at h1 h2
  rw [e, h1] at h2
  injection h2 with h3
  injection h3 with h4
  exact hn (lrow_inj h4).symm
theorem nd_split {L1 L2 : List TL} {t : TL} (nd : ((L1 ++ t :: L2).map (·.d.num)).Nodup) : ∀ u, u ∈ L1 ∨ u ∈ L2 → u.d.num ≠ t.d.num := fun u hu e => by
  rw [List.map_append, List.map_cons, List.nodup_append, List.nodup_cons] at nd
  rcases hu with hu | hu
  · exact nd.2.2 _ (List.mem_map.mpr ⟨u, hu, rfl⟩) _ List.mem_cons_self e
  · exact nd.2.1.1 (List.mem_map.mpr ⟨u, hu, e⟩)
theorem OrdAt.set {L1 L2 : List TL} {t : TL} (b : OrdAt F H lo (L1 ++ t :: L2)) (nd : ((L1 ++ t :: L2).map (·.d.num)).Nodup) (d : Od) : OrdAt F (upd H t.a (.lst (lrow d))) lo (L1 ++ { t with d := d } :: L2) := by
  have ht : t ∈ L1 ++ t :: L2 := List.mem_append_right _ List.mem_cons_self
  have old : ∀ x ∈ L1 ++ { t with d := d } :: L2, x = { t with d := d } ∨ (x ∈ L1 ++ t :: L2 ∧ x.a ≠ t.a) := fun x hx => by
    rcases List.mem_append.mp hx with hx | hx
    · have := List.mem_append_left (t :: L2) hx
      exact .inr ⟨this, b.c.apart ht this (nd_split nd x (.inl hx))⟩
    · rcases List.mem_cons.mp hx with hx | hx
      · exact .inl hx
      · have := List.mem_append_right L1 (List.mem_cons_of_mem t hx)
        exact .inr ⟨this, b.c.apart ht this (nd_split nd x (.inr hx))⟩
  refine ⟨Same.up b.same (b.out _ (.inr ⟨t, ht, rfl⟩)), fun a ha => ?_, ?_, fun x hx => ?_, fun x hx => ?_⟩
  · rcases ha with e | ⟨u, hu, e⟩
    · exact b.out a (.inl e)
    · rcases old u hu with q | ⟨q, _⟩
      · rw [q] at e
        exact b.out a (.inr ⟨t, ht, e⟩)
      · exact b.out a (.inr ⟨u, q, e⟩)
  · rw [upd_ne (b.c.ne t ht).symm, b.c.l]
    congr 2
    rw [List.map_append, List.map_append]
    rfl
  · rcases old x hx with q | ⟨q, hne⟩
    · rw [q]
      exact upd_same
    · exact (upd_ne hne).trans (b.c.o x q)
  · rcases old x hx with q | ⟨q, _⟩
    · rw [q]
      exact b.c.ne t ht
    · exact b.c.ne x q
end
theorem map_num (os : List TL) : os.map (·.d.num) = (os.map (·.d)).map (·.num) := by rw [List.map_map]; rfl
theorem rmv_at {L1 L2 : List TL} {t : TL} (nd : ((L1 ++ t :: L2).map (·.d.num)).Nodup) : (L1 ++ L2).map (·.d) = rmv t.d.num ((L1 ++ t :: L2).map (·.d)) := by
  have h := nd_split nd
  have g : ∀ L : List TL, (∀ u ∈ L, u.d.num ≠ t.d.num) → rmv t.d.num (L.map (·.d)) = L.map (·.d) := fun L hL => rmv_none fun x hx => by
    obtain ⟨u, hu, rfl⟩ := List.mem_map.mp hx
    exact hL u hu
  have e : rmv t.d.num ((L1 ++ t :: L2).map (·.d)) = rmv t.d.num (L1.map (·.d)) ++ rmv t.d.num (L2.map (·.d)) := by
    unfold rmv
    rw [List.map_append, List.map_cons, List.filter_append, List.filter_cons, if_neg (by simp)]
  rw [e, g L1 fun u hu => h u (.inl hu), g L2 fun u hu => h u (.inr hu), List.map_append]
theorem setN_L {L1 L2 : List TL} {t : TL} {d : Od} (nd : ((L1 ++ t :: L2).map (·.d.num)).Nodup) : (L1 ++ { t with d := d } :: L2).map (·.d) = setN t.d.num d ((L1 ++ t :: L2).map (·.d)) := by
  have h := nd_split nd
  have g : ∀ L : List TL, (∀ u ∈ L, u.d.num ≠ t.d.num) → setN t.d.num d (L.map (·.d)) = L.map (·.d) := fun L hL => setN_none fun x hx => by
    obtain ⟨u, hu, rfl⟩ := List.mem_map.mp hx
    exact hL u hu
  have e : setN t.d.num d ((L1 ++ t :: L2).map (·.d)) = setN t.d.num d (L1.map (·.d)) ++ d :: setN t.d.num d (L2.map (·.d)) := by
    unfold setN
    rw [List.map_append, List.map_cons, List.map_append, List.map_cons, if_pos rfl]
  rw [e, g L1 fun u hu => h u (.inl hu), g L2 fun u hu => h u (.inr hu), List.map_append, List.map_cons]
/-! ### data -/
def ldata (o : Od) : PyData := .list [.int o.num, .str o.house, .str (sd o.buy), pD o.price, .int o.left, .int o.vis, .int o.shown]
theorem dp_lrow {K : PySem.W.Frag} {H : Hp} {p : Addr} {o : Od} (h : H p = some (.lst (lrow o))) : Dp K H (.ref p) (ldata o) := .lst (SqL.of h) (.cons (.int _) (.cons (.str _) (.cons (.str _) (.cons (dp_pV _) (.cons (.int _) (.cons (.int _) (.cons (.int _) .nil)))))))
def hOk (h : Str) : Prop := PyData.strOk h = true
theorem sd_ok (b : Bool) : PyData.strOk (sd b) = true := by cases b <;> decide +kernel
theorem pD_lay (p : Option Int) : (pD p).canLay0 = true ∧ (pD p).depth = 0 := by cases p <;> exact ⟨rfl, rfl⟩
theorem canAll_append : ∀ {xs ys : List PyData}, PyData.canLayAll0 (xs ++ ys) = (PyData.canLayAll0 xs && PyData.canLayAll0 ys)
  | [], ys => (Bool.true_and _).symm
  | x :: xs, ys => by
    show (x.canLay0 && PyData.canLayAll0 (xs ++ ys)) = ((x.canLay0 && PyData.canLayAll0 xs) && PyData.canLayAll0 ys)
    rw [canAll_append, Bool.and_assoc]
theorem canAll_of : ∀ {ds : List PyData}, (∀ d ∈ ds, d.canLay0 = true) → PyData.canLayAll0 ds = true
  | [], _ => rfl
  | d :: ds, h => by
    show (d.canLay0 && PyData.canLayAll0 ds) = true
    rw [h d List.mem_cons_self, canAll_of fun x hx => h x (List.mem_cons_of_mem _ hx)]
    rfl
theorem depthAll_le {n : Nat} : ∀ {ds : List PyData}, (∀ d ∈ ds, d.depth ≤ n) → PyData.depthAll ds ≤ n
  | [], _ => Nat.zero_le _
  | d :: ds, h => Nat.max_le.mpr ⟨h d List.mem_cons_self, depthAll_le fun x hx => h x (List.mem_cons_of_mem _ hx)⟩
/-- data that may be compared -/
structure Lay (n : Nat) (d : PyData) : Prop where
  can : d.canLay0 = true
  dep : d.depth ≤ n
theorem Lay.shaped {n : Nat} {d : PyData} (h : Lay n d) (hn : n ≤ 64) : SeqAt.shaped d = true := by
  unfold SeqAt.shaped
  rw [h.can, decide_eq_true (Nat.le_trans h.dep hn)]
  rfl
theorem Lay.list {n : Nat} {ds : List PyData} (h : ∀ d ∈ ds, Lay n d) : Lay (n + 1) (.list ds) := ⟨canAll_of fun d hd => (h d hd).can, Nat.succ_le_succ (depthAll_le fun d hd => (h d hd).dep)⟩
theorem Lay.tup {n : Nat} {ds : List PyData} (h : ∀ d ∈ ds, Lay n d) : Lay (n + 1) (.tuple ds) := ⟨canAll_of fun d hd => (h d hd).can, Nat.succ_le_succ (depthAll_le fun d hd => (h d hd).dep)⟩
theorem Lay.int {n : Nat} (i : Int) : Lay n (.int i) := ⟨rfl, Nat.zero_le _⟩
theorem Lay.str {n : Nat} {x : Str} (h : PyData.strOk x = true) : Lay n (.str x) := ⟨h, Nat.zero_le _⟩
theorem Lay.pD {n : Nat} (p : Option Int) : Lay n (pD p) := ⟨(pD_lay p).1, by rw [(pD_lay p).2]; exact Nat.zero_le _⟩
theorem Lay.cons {n : Nat} {d : PyData} {ds : List PyData} (h : Lay n d) (hs : ∀ x ∈ ds, Lay n x) : ∀ x ∈ d :: ds, Lay n x := fun x hx => by
  rcases List.mem_cons.mp hx with e | hx
  · rw [e]
    exact h
  · exact hs x hx
theorem Lay.nil {n : Nat} : ∀ x ∈ ([] : List PyData), Lay n x := fun x hx => nomatch hx
theorem lay_ldata {o : Od} (h : hOk o.house) : Lay 1 (ldata o) := .list (.cons (.int _) (.cons (.str h) (.cons (.str (sd_ok _)) (.cons (.pD _) (.cons (.int _) (.cons (.int _) (.cons (.int _) .nil)))))))
theorem lay_odata {o : Od} (h : hOk o.house) : Lay 1 (odata o) := .tup (.cons (.int _) (.cons (.str h) (.cons (.pD _) (.cons (.int _) (.cons (.int _) .nil)))))
theorem lay_sdata {s : Sd} (h : hOk s.house) : Lay 1 (sdata s) := .tup (.cons (.int _) (.cons (.str h) (.cons (.str (sd_ok _)) (.cons (.int _) (.cons (.pD _) (.cons (.int _) .nil))))))
theorem ldata_ne {o u : Od} (h : o.num ≠ u.num) : PyData.eqv (ldata o) (ldata u) = false := by
  show ((o.num == u.num) && _) = false
  rw [beq_eq_false_iff_ne.mpr h]
  rfl
theorem sdata_ne {o u : Sd} (h : o.num ≠ u.num) : PyData.eqv (sdata o) (sdata u) = false := by
  show ((o.num == u.num) && _) = false
  rw [beq_eq_false_iff_ne.mpr h]
  rfl
theorem dpa_map {α : Type} {K : PySem.W.Frag} {H : Hp} {f : α → V} {g : α → PyData} : ∀ {L : List α}, (∀ t ∈ L, Dp K H (f t) (g t)) → DpAll K H (L.map f) (L.map g)
  | [], _ => .nil
  | t :: L, h => .cons (h t List.mem_cons_self) (dpa_map fun u hu => h u (List.mem_cons_of_mem _ hu))
theorem room65 {A : Around} {k : Nat} (hr : Room k A) : A.units + 65 < cLine := by
  have := hr.un
  omega
/-- the removal of t: what mt_removeD asks -/
theorem rem_ord {K : PySem.W.Frag} {H : Hp} {lo : Addr} {L1 L2 : List TL} {t : TL} {Q : VK} (c : OCells H lo (L1 ++ t :: L2)) (nd : ((L1 ++ t :: L2).map (·.d.num)).Nodup) (hk : ∀ u ∈ L1 ++ t :: L2, hOk u.d.house) (k : Q .non (upd H lo (.lst ((L1 ++ L2).map TL.ref)))) : rRemD K (.ref lo) [.ref t.a] H Q := by
  have ht : t ∈ L1 ++ t :: L2 := List.mem_append_right _ List.mem_cons_self
  refine ⟨lo, _, _, ldata t.d, (L1 ++ t :: L2).map fun u => ldata u.d, L1.length, ldata t.d, rfl, rfl, c.l, .lst (SqL.of c.l) (dpa_map fun u hu => dp_lrow (o := u.d) (p := u.a) (c.o u hu)), dp_lrow (o := t.d) (p := t.a) (c.o t ht), ?_, (lay_ldata (hk t ht)).shaped (by decide), ?_, ?_, ?_, ?_⟩
  · refine (Lay.list (n := 1) fun d hd => ?_).shaped (by decide)
    obtain ⟨u, hu, rfl⟩ := List.mem_map.mp hd
    exact lay_ldata (hk u hu)
  · rw [List.map_append, List.map_cons, List.getElem?_append_right (by simp)]
    simp
  · exact SeqAt.eqv_refl _ (lay_ldata (hk t ht)).can
  · intro m z hm hz
    rw [List.map_append, List.getElem?_append_left (by simpa using hm), List.getElem?_map] at hz
    cases e : L1[m]? with
    | none =>
      rw [e] at hz
      cases hz
    | some u =>
      rw [e] at hz
      cases hz
      exact ldata_ne (nd_split nd u (.inl (List.mem_of_getElem? e)))
  · have e : ((L1 ++ t :: L2).map TL.ref).eraseIdx L1.length = (L1 ++ L2).map TL.ref := by
      rw [List.map_append, List.map_cons, List.eraseIdx_append_of_length_le (by simp)]
      simp
    rw [e]
    exact k
end K29
end

section
set_option Elab.async false
set_option maxRecDepth 100000
set_option maxHeartbeats 4000000
set_option linter.unusedVariables false
/-! the small defs of the law -/
namespace K29
open PySem L2
/-- what an order is told, as it stands in the frozen part -/
def DueAt (F : Hp) (p : Addr) (fills : List Fl) (rem : List Int) (left : Int) : Prop := ∃ (fl rm : Addr) (fs : List (Addr × Fl)), F p = some (.tup [.ref fl, .ref rm, .int left]) ∧ F fl = some (.lst (fs.map fun x => .ref x.1)) ∧ F rm = some (.lst (rem.map V.int)) ∧ (∀ x ∈ fs, F x.1 = some (.tup (frow x.2))) ∧ fs.map (·.2) = fills
theorem DueAt.mono {F F' : Hp} {p : Addr} {fills : List Fl} {rem : List Int} {left : Int} (s : Same F F') (h : DueAt F p fills rem left) : DueAt F' p fills rem left := by
  obtain ⟨fl, rm, fs, h1, h2, h3, h4, h5⟩ := h
  exact ⟨fl, rm, fs, s _ _ h1, s _ _ h2, s _ _ h3, fun x hx => s _ _ (h4 x hx), h5⟩
/-- .. made of objects that F0 does not know -/
def DueIn (F0 F : Hp) (p : Addr) (fills : List Fl) (rem : List Int) (left : Int) : Prop := ∃ (fl rm : Addr) (fs : List (Addr × Fl)), (F p = some (.tup [.ref fl, .ref rm, .int left]) ∧ F fl = some (.lst (fs.map fun x => .ref x.1)) ∧ F rm = some (.lst (rem.map V.int)) ∧ (∀ x ∈ fs, F x.1 = some (.tup (frow x.2))) ∧ fs.map (·.2) = fills) ∧ F0 p = none ∧ F0 fl = none ∧ F0 rm = none ∧ ∀ x ∈ fs, F0 x.1 = none
theorem DueIn.at_ {F0 F : Hp} {p : Addr} {fills : List Fl} {rem : List Int} {left : Int} (h : DueIn F0 F p fills rem left) : DueAt F p fills rem left := by
  obtain ⟨fl, rm, fs, h, _⟩ := h
  exact ⟨fl, rm, fs, h⟩
theorem DueIn.to {F0 F G : Hp} {p : Addr} {fills : List Fl} {rem : List Int} {left : Int} (h : DueIn F0 F p fills rem left) (k : ∀ a o, F a = some o → F0 a = none → G a = some o) : DueAt G p fills rem left := by
  obtain ⟨fl, rm, fs, ⟨h1, h2, h3, h4, h5⟩, n1, n2, n3, n4⟩ := h
  exact ⟨fl, rm, fs, k _ _ h1 n1, k _ _ h2 n2, k _ _ h3 n3, fun x hx => k _ _ (h4 x hx) (n4 x hx), h5⟩
def hs4 (i : Int) : Str := if i = 0 then "ash" else if i = 1 then "bay" else if i = 2 then "elm" else "oak"
theorem hs4_ok (i : Int) : hOk (hs4 i) := by
  unfold hs4 hOk
  split
  · decide +kernel
  · split
    · decide +kernel
    · split <;> decide +kernel
theorem hs4_at {i : Int} (h0 : 0 ≤ i) (h4 : i < 4) : atI [V.str "ash", .str "bay", .str "elm", .str "oak"] i = some (.str (hs4 i)) := by
  obtain h | h | h | h : i = 0 ∨ i = 1 ∨ i = 2 ∨ i = 3 := by omega
  all_goals
    subst h
    rfl
theorem pick_none {rb : Bool} {lim : Option Int} {t : TL} (h1 : t.d.buy = rb) (h2 : acc (!rb) lim t.d.pr = true) : pick TL.d rb lim none t = some t := if_pos ⟨h1, h2⟩
theorem pick_some {rb : Bool} {lim : Option Int} {t y : TL} (h1 : t.d.buy = rb) (h2 : acc (!rb) lim t.d.pr = true) : pick TL.d rb lim (some y) t = if better rb t.d.pr y.d.pr = true then some t else some y := if_pos ⟨h1, h2⟩
section
variable {P : Program} {w : World} {K : PySem.W.Frag} {mg : Str → Option Value} {base : Heap} {A : Ad}
def spHouse : Sp := fun vs H Q _ => ∃ (i : Int), vs = [.int i] ∧ ∀ h H', hOk h → Same H H' → Q (.str h) H'
theorem ok_law_house (T : Txt K mg A) : FnOk P w K mg base CX0 1 A.f_law_house A.d_law_house ["_law_cell"] spHouse := by
  refine T.F_law_house.ok sc_law_house (fun vs H Q E h => ?_) (fun cdv Ar outer s H vs Q E hr h => ?_)
  · obtain ⟨_, rfl, _⟩ := h
    rfl
  · obtain ⟨i, rfl, k⟩ := h
    refine ⟨_, (pss_one (ps_ret (pe_ix ix_list (pe_lst (pa_cons pe_str (pa_cons pe_str (pa_cons pe_str (pa_cons pe_str pa_nil))))) (pe_op op_mod (pe_callTy call_int1 (by rfl) T.z_int PyProof.Rows.boot_int (pa_cons (pv 0) pa_nil)) pe_int) (fun _ _ => rfl)))), ?_⟩
    refine ⟨(by show 4 ≤ sizeLine; decide), fun l hl => ?_⟩
    refine ⟨_, rfl, .inl ⟨i, rfl, i, 4, rfl, rfl, (by show (0 : Int) < 4; decide), _, _, _, _, rfl, rfl, SqL.of upd_same, hs4_at (Int.emod_nonneg _ (by decide)) (Int.emod_lt_of_pos _ (by decide)), k _ _ (hs4_ok _) (Same.newH hl)⟩⟩
def spRSide : Sp := fun vs H Q _ => ∃ b : Bool, vs = [.str (sd b)] ∧ Q (.str (sd !b)) H
theorem ok_law_resting_side (T : Txt K mg A) : FnOk P w K mg base CX0 1 A.f_law_resting_side A.d_law_resting_side ["_law_side"] spRSide := by
  refine T.F_law_resting_side.ok sc_law_resting_side (fun vs H Q E h => ?_) (fun cdv Ar outer s H vs Q E hr h => ?_)
  · obtain ⟨_, rfl, _⟩ := h
    rfl
  · obtain ⟨b, rfl, k⟩ := h
    refine ⟨_, (pss_cons (ps_if (pt_cmpR op_eq (pv 0) pe_str (nomark _)) (pss_one (ps_ret pe_str)) pss_nil)
      (pss_one (ps_ret pe_str))), ?_⟩
    refine ⟨_, rfl, rfl, _, rfl, ?_⟩
    rw [sd_buy]
    cases b
    · exact iteF k
    · exact iteT k
def spFits : Sp := fun vs H Q _ => ∃ (rb : Bool) (l : Option Int) (p : Int), vs = [.str (sd rb), pV l, .int p] ∧ Q (.bl (acc (!rb) l p)) H
theorem ok_law_fits (T : Txt K mg A) : FnOk P w K mg base CX0 1 A.f_law_fits A.d_law_fits ["_law_side", "_law_limit", "_law_price"] spFits := by
  refine T.F_law_fits.ok sc_law_fits (fun vs H Q E h => ?_) (fun cdv Ar outer s H vs Q E hr h => ?_)
  · obtain ⟨_, _, _, rfl, _⟩ := h
    rfl
  · obtain ⟨b, l, p, rfl, k⟩ := h
    refine ⟨_, (pss_cons (ps_if (pt_cmpR op_isN (pv 1) pe_non (nomark _)) (pss_one (ps_ret pe_bl)) pss_nil)
      (pss_cons (ps_if (pt_cmpR op_eq (pv 0) pe_str (nomark _)) (pss_one (ps_ret (pe_cmpR op_le (pv 2) (pv 1) (nomark _)))) pss_nil)
      (pss_one (ps_ret (pe_cmpR op_ge (pv 2) (pv 1) (nomark _)))))), ?_⟩
    refine ⟨_, rfl, rfl, _, rfl, ?_⟩
    rw [pV_non]
    cases l with
    | none => exact iteT k
    | some l =>
      refine iteF ?_
      refine ⟨_, rfl, rfl, _, rfl, ?_⟩
      rw [sd_sell]
      cases b
      · exact iteT ⟨_, rfl, _, rfl, _, _, rfl, rfl, k⟩
      · exact iteF ⟨_, rfl, _, rfl, _, _, rfl, rfl, k⟩
def spVis : Sp := fun vs H Q _ => ∃ (l s : Int), vs = [.int l, .int s] ∧ Q (.int (lvis l s)) H
theorem ok_law_visible (T : Txt K mg A) : FnOk P w K mg base CX0 1 A.f_law_visible A.d_law_visible ["_law_left", "_law_shown"] spVis := by
  refine T.F_law_visible.ok sc_law_visible (fun vs H Q E h => ?_) (fun cdv Ar outer s H vs Q E hr h => ?_)
  · obtain ⟨_, _, rfl, _⟩ := h
    rfl
  · obtain ⟨l, sh, rfl, k⟩ := h
    refine ⟨_, (pss_cons (ps_if (pt_cmpR op_eq (pv 1) pe_int (nomark _)) (pss_one (ps_ret (pv 0))) pss_nil)
      (pss_one (ps_ret (pe_callB (call_min2 rfl) (by rfl) T.z_min PyProof.Rows.boot_min (pa_cons (pv 0) (pa_cons (pv 1) pa_nil)))))), ?_⟩
    refine ⟨_, rfl, rfl, _, rfl, ?_⟩
    rw [int_eq]
    unfold lvis at k
    by_cases h : sh = 0
    · rw [if_pos h] at k
      exact iteTe (decide_eq_true h) ⟨_, rfl, k⟩
    · rw [if_neg h] at k
      exact iteFe (decide_eq_false h) ⟨_, rfl, _, rfl, _, _, rfl, k⟩
def spReached : Sp := fun vs H Q _ => ∃ (a : Addr) (s : Sd) (l : Option Int), vs = [.ref a, pV l] ∧ H a = some (.tup (srow s)) ∧ Q (.bl (reached l s)) H
theorem ok_law_reached (T : Txt K mg A) : FnOk P w K mg base CX0 1 A.f_law_reached A.d_law_reached ["_law_stop", "_law_last_here"] spReached := by
  refine T.F_law_reached.ok sc_law_reached (fun vs H Q E h => ?_) (fun cdv Ar outer s H vs Q E hr h => ?_)
  · obtain ⟨_, _, _, rfl, _⟩ := h
    rfl
  · obtain ⟨a, z, l, rfl, hp, k⟩ := h
    refine ⟨_, (pss_cons (ps_if (pt_cmpR op_isN (pv 1) pe_non (nomark _)) (pss_one (ps_ret pe_bl)) pss_nil)
      (pss_cons (ps_if (pt_cmpR op_eq (pe_ix ix_tup (pv 0) pe_int (fun _ _ => rfl)) pe_str (nomark _)) (pss_one (ps_ret (pe_cmpR op_ge (pv 1) (pe_ix ix_tup (pv 0) pe_int (fun _ _ => rfl)) (nomark _)))) pss_nil)
      (pss_one (ps_ret (pe_cmpR op_le (pv 1) (pe_ix ix_tup (pv 0) pe_int (fun _ _ => rfl)) (nomark _)))))), ?_⟩
    refine ⟨_, rfl, rfl, _, rfl, ?_⟩
    rw [pV_non]
    cases l with
    | none => exact iteT k
    | some l =>
      refine iteF ?_
      refine ⟨_, rfl, _, _, _, _, rfl, rfl, SqT.of hp, at_of (j := 2) rfl rfl, rfl, _, rfl, ?_⟩
      rw [sd_buy]
      have k' : Q (.bl (if z.buy = true then decide (z.trig ≤ l) else decide (l ≤ z.trig))) H := k
      cases hb : z.buy
      · rw [hb] at k'
        exact iteF ⟨_, rfl, _, rfl, _, _, _, _, rfl, rfl, SqT.of hp, at_of (j := 3) rfl rfl, _, _, rfl, rfl, k'⟩
      · rw [hb] at k'
        exact iteT ⟨_, rfl, _, rfl, _, _, _, _, rfl, rfl, SqT.of hp, at_of (j := 3) rfl rfl, _, _, rfl, rfl, k'⟩
def spLast : Sp := fun vs H Q _ => ∃ (l : Option Int) (p : Addr) (fills : List Fl) (rem : List Int) (left : Int), vs = [pV l, .ref p] ∧ DueAt H p fills rem left ∧ Q (pV (lastOf l fills)) H
theorem ok_law_last (T : Txt K mg A) : FnOk P w K mg base CX0 1 A.f_law_last A.d_law_last ["_law_last_here", "_law_due"] spLast := by
  refine T.F_law_last.ok sc_law_last (fun vs H Q E h => ?_) (fun cdv Ar outer s H vs Q E hr h => ?_)
  · obtain ⟨_, _, _, _, _, rfl, _⟩ := h
    rfl
  · obtain ⟨l, p, fills, rem, left, rfl, ⟨fl, rm, fs, h1, h2, h3, h4, rfl⟩, k⟩ := h
    refine ⟨_, (pss_cons (ps_if (pt_truth (pe_ix ix_tup (pv 1) pe_int (fun _ _ => rfl)) (by intro _; rfl)) (pss_one (ps_ret (pe_ix ix_tup (pe_ix ix_list (pe_ix ix_tup (pv 1) pe_int (fun _ _ => rfl)) (pe_un un_neg pe_int) (fun _ _ => rfl)) pe_int (fun _ _ => rfl)))) pss_nil)
      (pss_one (ps_ret (pv 0)))), ?_⟩
    refine ⟨_, rfl, _, _, _, _, rfl, rfl, SqT.of h1, at_of (j := 0) rfl rfl, _, .inl ⟨_, SqL.of h2, rfl⟩, ?_⟩
    unfold lastOf at k
    rw [List.getLast?_map] at k
    cases hfs : fs.getLast? with
    | none =>
      rw [hfs] at k
      have e0 : fs = [] := List.getLast?_eq_none_iff.mp hfs
      subst e0
      exact iteF ⟨_, rfl, k⟩
    | some x =>
      rw [hfs] at k
      obtain ⟨f0, rfl⟩ := List.getLast?_eq_some_iff.mp hfs
      refine iteTe (by simp) ?_
      exact ⟨_, rfl, _, _, _, _, rfl, rfl, SqT.of h1, at_of (j := 0) rfl rfl, _, rfl, _, _, _, _, rfl, rfl, SqL.of h2, (by rw [List.map_append]; exact atI_last _ _), _, _, _, _, rfl, rfl, SqT.of (h4 x (by simp)), at_of (j := 2) rfl rfl, k⟩
def spLFirst : Sp := fun vs H Q _ => ∃ (lo : Addr) (os : List TL) (rb : Bool) (lim : Option Int), vs = [.ref lo, .str (sd rb), pV lim] ∧ H lo = some (.lst (os.map TL.ref)) ∧ (∀ t ∈ os, LAt H t) ∧ (∀ t ∈ os, t.d.price = some t.d.pr) ∧ Q ((lfirstG TL.d rb lim os).elim .non TL.ref) H
theorem ok_law_first (T : Txt K mg A) : FnOk P w K mg base CX0 2 A.f_law_first A.d_law_first ["_law_orders", "_law_side", "_law_limit"] spLFirst := by
  refine T.F_law_first.ok sc_law_first (fun vs H Q E h => ?_) (fun cdv Ar outer s H vs Q E hr h => ?_)
  · obtain ⟨_, _, _, _, rfl, _⟩ := h
    rfl
  · obtain ⟨lo, os, rb, lim, rfl, hl, ho, hp, k⟩ := h
    refine ⟨_, (pss_cons (ps_set (i := 3) sc_law_first.nd rfl (Or.inl rfl) pe_non)
      (pss_cons (ps_for PassesOwn.never rfl (pi_list (pv 0)) (pg_name (i := 4) sc_law_first.nd rfl (Or.inl rfl)) (pss_one (ps_if (PW.pt (pw_and (pt_cmpR op_eq (pe_ix ix_list (pv 4) pe_int (fun _ _ => rfl)) (pv 1) (nomark _)) (pw_and1 (pt_val (pe_call (ok_law_fits T) (hr.mono (by decide)) (by rfl) T.g_law_fits T.F_law_fits.kp T.b_law_fits .nil pass0 (pa_cons (pv 1) (pa_cons (pv 2) (pa_cons (pe_ix ix_list (pv 4) pe_int (fun _ _ => rfl)) pa_nil)))))))) (pss_one (ps_if (pt_cmpR op_isN (pv 3) pe_non (nomark _)) (pss_one (ps_set (i := 3) sc_law_first.nd rfl (Or.inl rfl) (pv 4))) (pss_one (ps_if (PW.pt (pw_and (pt_cmpR op_eq (pv 1) pe_str (nomark _)) (pw_and1 (pt_cmpR op_lt (pe_ix ix_list (pv 4) pe_int (fun _ _ => rfl)) (pe_ix ix_list (pv 3) pe_int (fun _ _ => rfl)) (nomark _))))) (pss_one (ps_set (i := 3) sc_law_first.nd rfl (Or.inl rfl) (pv 4))) (pss_one (ps_if (PW.pt (pw_and (pt_cmpR op_eq (pv 1) pe_str (nomark _)) (pw_and1 (pt_cmpR op_gt (pe_ix ix_list (pv 4) pe_int (fun _ _ => rfl)) (pe_ix ix_list (pv 3) pe_int (fun _ _ => rfl)) (nomark _))))) (pss_one (ps_set (i := 3) sc_law_first.nd rfl (Or.inl rfl) (pv 4))) pss_nil)))))) pss_nil)))
      (pss_one (ps_ret (pv 3))))), ?_⟩
    refine ⟨_, rfl, lo, rfl, ⟨_, SqL.of hl⟩, for_list (K := K) (a := lo) (xs := os.map TL.ref)
      (fun i σ H' => ∃ (v : Option V) (best : Option TL), σ = [some (.ref lo), some (.str (sd rb)), some (pV lim), some (best.elim .non TL.ref), v] ∧ H' = H ∧ best = (os.take i).foldl (pick TL.d rb lim) none ∧ ∀ t, best = some t → t ∈ os) ⟨none, none, rfl, rfl, rfl, fun t e => by cases e⟩ (fun i σ H' _ ⟨_, _, _, e, _⟩ => by rw [e]; exact SqL.of hl) ?_ ?_⟩
    · rintro i x σ H' hi ⟨v, best, rfl, rfl, eb, hb⟩
      obtain ⟨t, ht, rfl⟩ := TL.ref_ix hi
      have htm := List.mem_of_getElem? ht
      have hot := ho t htm
      have step : (os.take (i + 1)).foldl (pick TL.d rb lim) none = pick TL.d rb lim best t := by
        rw [take_snoc ht, List.foldl_append, ← eb]
        rfl
      refine ⟨_, rfl, _, _, _, _, rfl, rfl, SqL.of hot, at_of (j := 2) rfl rfl, _, rfl, rfl, _, rfl, ?_⟩
      show if decide (V.str (sd t.d.buy) = V.str (sd rb)) = true then _ else _
      rw [sd_eq]
      have keep : ¬ (t.d.buy = rb ∧ acc (!rb) lim t.d.pr = true) → pick TL.d rb lim best t = best := fun h => if_neg h
      by_cases hbuy : t.d.buy = rb
      case neg =>
        refine iteFe (decide_eq_false hbuy) (iteF ?_)
        exact ⟨_, best, rfl, rfl, by rw [step, keep fun z => hbuy z.1], hb⟩
      refine iteTe (decide_eq_true hbuy) ?_
      refine ⟨_, rfl, _, rfl, _, rfl, _, _, _, _, rfl, rfl, SqL.of hot, at_of (j := 3) rfl rfl, rb, lim, t.d.pr, ?_, _, rfl, ?_⟩
      · show [V.str (sd rb), pV lim, pV t.d.price] = _
        rw [hp t htm]
        rfl
      cases hacc : acc (!rb) lim t.d.pr with
      | false =>
        refine iteF ?_
        exact ⟨_, best, rfl, rfl, by rw [step, keep fun z => by rw [hacc] at z; cases z.2], hb⟩
      | true =>
        refine iteT ?_
        refine ⟨_, rfl, rfl, _, rfl, ?_⟩
        cases best with
        | none =>
          refine iteTe rfl ?_
          exact ⟨_, rfl, _, some t, rfl, rfl, by rw [step, pick_none hbuy hacc], fun u e => by cases e; exact htm⟩
        | some y =>
          refine iteFe rfl ?_
          have hym := hb y rfl
          have hoy := ho y hym
          have pt : pV t.d.price = .int t.d.pr := by rw [hp t htm]; rfl
          have py : pV y.d.price = .int y.d.pr := by rw [hp y hym]; rfl
          have pk := pick_some (y := y) hbuy hacc
          have won : better rb t.d.pr y.d.pr = true → some t = (os.take (i + 1)).foldl (pick TL.d rb lim) none := fun h => by rw [step, pk, if_pos h]
          have lost : ¬ better rb t.d.pr y.d.pr = true → some y = (os.take (i + 1)).foldl (pick TL.d rb lim) none := fun h => by rw [step, pk, if_neg h]
          refine ⟨_, rfl, rfl, _, rfl, ?_⟩
          rw [sd_sell]
          cases rb with
          | false =>
            refine iteT ⟨_, rfl, _, _, _, _, rfl, rfl, SqL.of hot, at_of (j := 3) rfl rfl, _, rfl, _, _, _, _, rfl, rfl, SqL.of hoy, at_of (j := 3) rfl rfl, _, _, pt, py, _, rfl, ?_⟩
            cases hb2 : decide (t.d.pr < y.d.pr) with
            | true =>
              refine iteT ?_
              exact ⟨_, rfl, _, some t, rfl, rfl, won hb2, fun u e => by cases e; exact htm⟩
            | false =>
              refine iteF ?_
              refine ⟨_, rfl, rfl, _, rfl, ?_⟩
              refine iteFe (by decide +kernel) (iteF ?_)
              exact ⟨_, some y, rfl, rfl, lost (by show ¬ decide (t.d.pr < y.d.pr) = true; rw [hb2]; decide), hb⟩
          | true =>
            refine iteF (iteF ?_)
            refine ⟨_, rfl, rfl, _, rfl, ?_⟩
            refine iteTe (by decide +kernel) ?_
            refine ⟨_, rfl, _, _, _, _, rfl, rfl, SqL.of hot, at_of (j := 3) rfl rfl, _, rfl, _, _, _, _, rfl, rfl, SqL.of hoy, at_of (j := 3) rfl rfl, _, _, pt, py, _, rfl, ?_⟩
            cases hb2 : decide (y.d.pr < t.d.pr) with
            | true =>
              refine iteT ?_
              exact ⟨_, rfl, _, some t, rfl, rfl, won hb2, fun u e => by cases e; exact htm⟩
            | false =>
              refine iteF ?_
              exact ⟨_, some y, rfl, rfl, lost (by show ¬ decide (y.d.pr < t.d.pr) = true; rw [hb2]; decide), hb⟩
    · rintro σ H' ⟨v, best, rfl, rfl, eb, hb⟩
      rw [List.length_map, List.take_length] at eb
      refine ⟨_, rfl, ?_⟩
      rw [eb]
      exact k
end
end K29
end

section
set_option Elab.async false
set_option maxRecDepth 100000
set_option maxHeartbeats 4000000
set_option linter.unusedVariables false
/-! the law: _law_told, _law_trade -/
namespace K29
open PySem L2
def fdata (f : Fl) : PyData := .tuple [.int f.num, .str f.house, .int f.price, .int f.qty]
def rdata (r : Rp) : PyData := .tuple [.int r.num, .str r.house, .str (sd r.buy), .list (r.fills.map fdata), .list (r.rem.map .int), .int r.rest]
theorem dp_frow {K : PySem.W.Frag} {H : Hp} {p : Addr} {f : Fl} (h : H p = some (.tup (frow f))) : Dp K H (.ref p) (fdata f) := .tup (SqT.of h) (.cons (.int _) (.cons (.str _) (.cons (.int _) (.cons (.int _) .nil))))
theorem dp_fills {K : PySem.W.Frag} {H : Hp} {fl : Addr} {fs : List (Addr × Fl)} {fills : List Fl} (h : H fl = some (.lst (fs.map fun x => .ref x.1))) (hf : ∀ x ∈ fs, H x.1 = some (.tup (frow x.2))) (e : fs.map (·.2) = fills) : Dp K H (.ref fl) (.list (fills.map fdata)) := by
  subst e
  refine .lst (SqL.of h) ?_
  rw [List.map_map]
  exact dpa_map fun x hx => dp_frow (hf x hx)
theorem dp_rem {K : PySem.W.Frag} {H : Hp} {rm : Addr} {rem : List Int} (h : H rm = some (.lst (rem.map V.int))) : Dp K H (.ref rm) (.list (rem.map .int)) := .lst (SqL.of h) (dpa_map fun x _ => .int x)
theorem lay_rdata {r : Rp} (h : hOk r.house) (hf : ∀ f ∈ r.fills, hOk f.house) : Lay 3 (rdata r) := by
  refine .tup (.cons (.int _) (.cons (.str h) (.cons (.str (sd_ok _)) (.cons (.list fun d hd => ?_) (.cons (.list fun d hd => ?_) (.cons (.int _) .nil))))))
  · obtain ⟨f, hm, rfl⟩ := List.mem_map.mp hd
    exact .tup (n := 0) (.cons (.int _) (.cons (.str (hf f hm)) (.cons (.int _) (.cons (.int _) .nil))))
  · obtain ⟨f, hm, rfl⟩ := List.mem_map.mp hd
    exact .int _
theorem RepsIn.at_ {A : Ad} {F0 F : Hp} : ∀ {ps : List Addr} {rs : List Rp}, RepsIn A F0 F ps rs → ∀ {i : Nat} {p : Addr}, ps[i]? = some p → ∃ r, rs[i]? = some r ∧ RepIn A F0 F p r
  | [], [], _, i, p, e => by simp at e
  | q :: ps, r :: rs, h, 0, p, e => by
    cases e
    exact ⟨r, rfl, h.1⟩
  | q :: ps, r :: rs, h, i + 1, p, e => RepsIn.at_ h.2 (i := i) e
  | [], _ :: _, h, _, _, _ => h.elim
  | _ :: _, [], h, _, _, _ => h.elim
theorem ref_ixA {L : List Addr} {i : Nat} {x : V} (h : (L.map V.ref)[i]? = some x) : ∃ t, L[i]? = some t ∧ x = .ref t := by
  rw [List.getElem?_map] at h
  cases e : L[i]? with
  | none =>
    rw [e] at h
    cases h
  | some t =>
    rw [e] at h
    exact ⟨t, rfl, (Option.some.inj h).symm⟩
theorem lstep_hk {rb : Bool} {lim : Option Int} {h : Str} {s : LS} (h1 : ∀ o ∈ s.os, hOk o.house) : ∀ o ∈ (lstep rb lim h s).os, hOk o.house := by
  unfold lstep
  cases hf : lfirst rb lim s.os with
  | none => exact h1
  | some f =>
    have hm := h1 f (lfirstG_mem hf)
    simp only
    split
    · exact fun o ho => h1 o (mem_rmv.mp ho).1
    · refine fun o ho => ?_
      have ho' : o ∈ lback (hit f (minI s.left f.vis)) s.os := ho
      unfold lback at ho'
      split at ho'
      · split at ho'
        · rcases List.mem_append.mp ho' with q | q
          · exact h1 o (mem_rmv.mp q).1
          · rw [List.mem_singleton.mp q]
            exact hm
        · exact h1 o (mem_rmv.mp ho').1
      · unfold setN at ho'
        obtain ⟨y, hy, rfl⟩ := List.mem_map.mp ho'
        split
        · exact hm
        · exact h1 y hy
theorem lstep_fk {rb : Bool} {lim : Option Int} {h : Str} {s : LS} (h1 : ∀ o ∈ s.os, hOk o.house) (h2 : ∀ f ∈ s.fills, hOk f.house) : ∀ f ∈ (lstep rb lim h s).fills, hOk f.house := by
  unfold lstep
  cases hf : lfirst rb lim s.os with
  | none => exact h2
  | some f =>
    have hm := h1 f (lfirstG_mem hf)
    simp only
    split
    · exact h2
    · intro g hg
      rcases List.mem_append.mp hg with q | q
      · exact h2 g q
      · rw [List.mem_singleton.mp q]
        exact hm
theorem LRun.hk {rb : Bool} {lim : Option Int} {h : Str} {s t : LS} (x : LRun rb lim h s t) : (∀ o ∈ s.os, hOk o.house) → (∀ f ∈ s.fills, hOk f.house) → (∀ o ∈ t.os, hOk o.house) ∧ ∀ f ∈ t.fills, hOk f.house := by
  induction x with
  | done _ => exact fun h1 h2 => ⟨h1, h2⟩
  | step _ _ ih => exact fun h1 h2 => ih (lstep_hk h1) (lstep_fk h1 h2)
theorem lstep_own {rb : Bool} {lim : Option Int} {h : Str} {s : LS} {f : Od} (hf : lfirst rb lim s.os = some f) (hh : f.house = h) : lstep rb lim h s = ⟨rmv f.num s.os, s.left, s.fills, s.rem ++ [f.num]⟩ := by
  unfold lstep
  rw [hf]
  exact if_pos hh
theorem lstep_hit {rb : Bool} {lim : Option Int} {h : Str} {s : LS} {f : Od} (hf : lfirst rb lim s.os = some f) (hh : ¬ f.house = h) : lstep rb lim h s = ⟨lback (hit f (minI s.left f.vis)) s.os, s.left - minI s.left f.vis, s.fills ++ [⟨f.num, f.house, f.pr, minI s.left f.vis⟩], s.rem⟩ := by
  unfold lstep
  rw [hf]
  exact if_neg hh
section
variable {P : Program} {w : World} {K : PySem.W.Frag} {mg : Str → Option Value} {base : Heap} {A : Ad}
def spTold (K : PySem.W.Frag) (A : Ad) : Sp := fun vs H Q _ => ∃ (F0 F : Hp) (X : Addr → Prop) (lp : Addr) (ps : List Addr) (rs : List Rp), vs = [.ref lp] ∧ Same F H ∧ F lp = some (.lst (ps.map V.ref)) ∧ RepsIn A F0 F ps rs ∧ (∀ a, X a → F a = none ∧ ∃ o, H a = some o) ∧ ps.length ≤ 2000 ∧
  ∀ F' H' q, Same F F' → Same H H' → Same F' H' → (∀ a, X a → F' a = none) → Dp K F' (.ref q) (.list (rs.map rdata)) → Q (.ref q) H'
/-- a list that is being filled; what its items are stands in F1, that leaves X alone -/
def FillT (K : PySem.W.Frag) (X : Addr → Prop) (F H0 H : Hp) (D : Addr) (ds : List PyData) : Prop := ∃ (F1 : Hp) (vs : List V), Same F F1 ∧ F1 D = none ∧ (∀ a, X a → F1 a = none) ∧ Same F1 H ∧ H D = some (.lst vs) ∧ DpAll K F1 vs ds ∧ Same H0 H
theorem ok_law_told (T : Txt K mg A) : FnOk P w K mg base CX0 1 A.f_law_told A.d_law_told ["_law_reports"] (spTold K A) := by
  refine T.F_law_told.ok sc_law_told (fun vs H Q E h => ?_) (fun cdv Ar outer s H vs Q E hr h => ?_)
  · obtain ⟨_, _, _, _, _, _, rfl, _⟩ := h
    rfl
  · obtain ⟨F0, F, X, lp, ps, rs, rfl, sFH, hlp, reps, hX, hlen, k⟩ := h
    refine ⟨_, (pss_cons (ps_set (i := 1) sc_law_told.nd rfl (Or.inl rfl) (pe_lst pa_nil))
      (pss_cons (ps_for PassesOwn.never rfl (pi_list (pv 0)) (pg_name (i := 2) sc_law_told.nd rfl (Or.inl rfl)) (pss_one (ps_expr (pe_bm PySem.F.plainAttrs_list PySem.F.slot_list_append PySem.F.type_list_append mt_append (pv 1) (pa_cons (pe_tup (pa_cons (pe_fld (pv 2) rfl) (pa_cons (pe_fld (pv 2) rfl) (pa_cons (pe_fld (pv 2) rfl) (pa_cons (pe_fld (pv 2) rfl) (pa_cons (pe_fld (pv 2) rfl) (pa_cons (pe_fld (pv 2) rfl) pa_nil))))))) pa_nil)))))
      (pss_one (ps_ret (pv 1))))), ?_⟩
    refine ⟨Nat.zero_le _, fun D hD => ?_⟩
    have nX : ∀ p, H p = none → ¬ X p := fun p hp z => by
      obtain ⟨_, o, e⟩ := hX p z
      rw [hp] at e
      cases e
    refine ⟨_, rfl, lp, rfl, ⟨_, SqL.of (Same.newH hD _ _ (sFH _ _ hlp))⟩, for_list (K := K) (a := lp) (xs := ps.map V.ref)
      (fun i σ H' => ∃ v, σ = [some (.ref lp), some (.ref D), v] ∧ FillT K X F H H' D ((rs.take i).map rdata)) ⟨none, rfl, F, [], Same.refl _, sFH.free hD, fun a ha => (hX a ha).1, sFH.trans (Same.newH hD), upd_same, .nil, Same.newH hD⟩ (fun i σ H' _ ⟨_, _, _, _, f1, _, _, f2, _⟩ => SqL.of (f2 _ _ (f1 _ _ hlp))) ?_ ?_⟩
    · rintro i x σ H' hi ⟨v, rfl, F1, vs1, s1, FD, FX, s2, hv, av, s3⟩
      obtain ⟨p, hp, rfl⟩ := ref_ixA hi
      obtain ⟨r, hr2, dx, fl, rm, fs, ra, _⟩ := reps.at_ hp
      have ra2 := ra.mono (s1.trans s2)
      refine ⟨_, rfl, .inl ⟨rfl, _, SqL.of hv⟩, _, rfl, p, A.CR, dx, _, _, rfl, ra2.ob, T.cR, T.nR_number, rfs_number _ _ _ _ _ _, _, rfl, p, A.CR, dx, _, _, rfl, ra2.ob, T.cR, T.nR_house, rfs_house _ _ _ _ _ _, _, rfl, p, A.CR, dx, _, _, rfl, ra2.ob, T.cR, T.nR_side, rfs_side _ _ _ _ _ _, _, rfl, p, A.CR, dx, _, _, rfl, ra2.ob, T.cR, T.nR_fills, rfs_fills _ _ _ _ _ _, _, rfl, p, A.CR, dx, _, _, rfl, ra2.ob, T.cR, T.nR_removed, rfs_removed _ _ _ _ _ _, _, rfl, p, A.CR, dx, _, _, rfl, ra2.ob, T.cR, T.nR_resting, rfs_resting _ _ _ _ _ _, (by show 6 ≤ sizeLine; decide), fun q hq => ?_⟩
      have Dq : D ≠ q := ne_of_none hv hq
      have lvs := dpa_len av
      rw [List.length_map, List.length_take] at lvs
      have hrl := reps.len
      refine ⟨D, _, _, rfl, rfl, (upd_ne Dq).trans hv, Nat.lt_of_le_of_lt (show vs1.length ≤ 2000 by omega) (by decide), _, rfl, ?_⟩
      have sF2 : Same F1 (upd F1 q (.tup [.int r.num, .str r.house, .str (sd r.buy), .ref fl, .ref rm, .int r.rest])) := Same.newH (s2.free hq)
      have ra3 := ra.mono (s1.trans sF2)
      have dr : Dp K (upd F1 q (.tup [.int r.num, .str r.house, .str (sd r.buy), .ref fl, .ref rm, .int r.rest])) (.ref q) (rdata r) := .tup (SqT.of upd_same) (.cons (.int _) (.cons (.str _) (.cons (.str _) (.cons (dp_fills ra3.hfl ra3.fsF ra3.fsm) (.cons (dp_rem ra3.hrm) (.cons (.int _) .nil))))))
      refine ⟨_, _, s1.trans sF2, (upd_ne Dq).trans FD, fun a ha => ?_, Same.up (fun a u e => ?_) ((upd_ne Dq).trans FD), upd_same, ?_, ?_⟩
      · rw [upd_ne (fun e : a = q => nX q (s3.free hq) (by rw [← e]; exact ha))]
        exact FX a ha
      · by_cases e1 : a = q
        · rw [e1, upd_same] at e ⊢
          exact e
        · rw [upd_ne e1] at e ⊢
          exact s2 a u e
      · rw [take_snoc hr2, List.map_append]
        exact dpa_snoc (dpa_mono sF2 av) dr
      · exact Same.up (s3.trans (Same.newH hq)) hD
    · rintro σ H' ⟨v, rfl, F1, vs1, s1, FD, FX, s2, hv, av, s3⟩
      rw [List.length_map, reps.len, List.take_length] at av
      have sF2 : Same F1 (upd F1 D (.lst vs1)) := Same.newH FD
      refine ⟨_, rfl, k (upd F1 D (.lst vs1)) H' D (s1.trans sF2) s3 (fun a u e => ?_) (fun a ha => ?_) (.lst (SqL.of upd_same) (dpa_mono sF2 av))⟩
      · by_cases e1 : a = D
        · rw [e1, upd_same] at e
          rw [e1, hv]
          exact e
        · rw [upd_ne e1] at e
          exact s2 a u e
      · rw [upd_ne (fun e : a = D => nX D hD (by rw [← e]; exact ha))]
        exact FX a ha
/-- the state of the law's trade at a turn -/
structure LSt (b : Bool) (lim : Option Int) (h : Str) (F0 : Hp) (lo fl rm : Addr) (s0 : LS) (i : Nat) (F H : Hp) (os : List TL) (m : LS) (fs : List (Addr × Fl)) : Prop where
  same : Same F0 F
  ord : OrdAt F H lo os
  eo : os.map (·.d) = m.os
  hfl : H fl = some (.lst (fs.map fun x => .ref x.1))
  fsF : ∀ x ∈ fs, F x.1 = some (.tup (frow x.2))
  fsN : ∀ x ∈ fs, F0 x.1 = none
  fsm : fs.map (·.2) = m.fills
  hrm : H rm = some (.lst (m.rem.map V.int))
  flrm : fl ≠ rm
  Ffl : F fl = none
  Frm : F rm = none
  nfl : ¬ oft lo os fl
  nrm : ¬ oft lo os rm
  inv : LInv m.os
  hk : ∀ o ∈ m.os, hOk o.house
  left : 0 ≤ m.left
  run : ∀ z, LRun (!b) lim h m z → LRun (!b) lim h s0 z
  bnd : meas ⟨srt (!b) m.os, m.left, m.fills, m.rem⟩ + i ≤ 1999
  cnt : m.fills.length + m.rem.length ≤ i
  len : os.length ≤ 1000
def spTrade : Sp := fun vs H Q _ => ∃ (F : Hp) (lo : Addr) (os : List TL) (h : Str) (b : Bool) (lim : Option Int) (q : Int), vs = [.ref lo, .str h, .str (sd b), pV lim, .int q] ∧ OrdAt F H lo os ∧ LInv (os.map (·.d)) ∧ (∀ o ∈ os, hOk o.d.house) ∧ 0 ≤ q ∧ q ≤ 1000 ∧ os.length ≤ 900 ∧
  ∀ F' H' os' t p, Same F F' → OrdAt F' H' lo os' → LRun (!b) lim h ⟨os.map (·.d), q, [], []⟩ t → os'.map (·.d) = t.os → DueIn F F' p t.fills t.rem t.left → Q (.ref p) H'
theorem LSt.nd {b : Bool} {lim : Option Int} {h : Str} {F0 F H : Hp} {lo fl rm : Addr} {s0 m : LS} {i : Nat} {os : List TL} {fs : List (Addr × Fl)} (S : LSt b lim h F0 lo fl rm s0 i F H os m fs) : (os.map (·.d.num)).Nodup := by
  rw [map_num, S.eo]
  exact S.inv.nd
/-- a turn: the mirror goes a step -/
theorem LSt.step {b : Bool} {lim : Option Int} {h : Str} {F0 F H F' H' : Hp} {lo fl rm : Addr} {s0 m : LS} {i : Nat} {os os' : List TL} {fs fs' : List (Addr × Fl)} (S : LSt b lim h F0 lo fl rm s0 i F H os m fs) (nd : ¬ ldone (!b) lim m)
    (same : Same F F') (ord : OrdAt F' H' lo os') (eo : os'.map (·.d) = (lstep (!b) lim h m).os) (hfl : H' fl = some (.lst (fs'.map fun x => .ref x.1))) (fsF : ∀ x ∈ fs', F' x.1 = some (.tup (frow x.2))) (fsN : ∀ x ∈ fs', F0 x.1 = none) (fsm : fs'.map (·.2) = (lstep (!b) lim h m).fills)
    (hrm : H' rm = some (.lst ((lstep (!b) lim h m).rem.map V.int))) (Ffl : F' fl = none) (Frm : F' rm = none) (nfl : ¬ oft lo os' fl) (nrm : ¬ oft lo os' rm) : LSt b lim h F0 lo fl rm s0 (i + 1) F' H' os' (lstep (!b) lim h m) fs' := by
  have nm := mt (ldone_iff S.left).mpr nd
  rw [Bool.not_not] at nm
  obtain ⟨hp, f, L, e, ha⟩ := mdone_L nm
  have st := lstep_rel (rb := !b) (lim := lim) (h := h) S.inv hp e (by rw [Bool.not_not]; exact ha)
  have ok := mstep_ok (c := !b) (h := h) nm ⟨fun f hf => ⟨S.inv.good f ((mem_srt m.os).mp hf).1, ((mem_srt m.os).mp hf).2⟩, S.left⟩
  rw [← st.m] at ok
  have h1 := ok.2.1
  have h2 := S.bnd
  have h3 := ok.2.2.2.2
  have h4 := S.cnt
  have h5 := ok.1.left
  simp only at h3 h5
  refine ⟨S.same.trans same, ord, eo, hfl, fsF, fsN, fsm, hrm, S.flrm, Ffl, Frm, nfl, nrm, st.i, lstep_hk S.hk, h5, fun z hz => S.run z (.step nd hz), by omega, by omega, ?_⟩
  have e1 : os'.length = (lstep (!b) lim h m).os.length := by rw [← eo, List.length_map]
  have e2 : os.length = m.os.length := by rw [← S.eo, List.length_map]
  have := st.len
  have := S.len
  omega
theorem LSt.fin {b : Bool} {lim : Option Int} {h : Str} {F0 F H : Hp} {lo fl rm : Addr} {s0 m : LS} {i : Nat} {os : List TL} {fs : List (Addr × Fl)} (S : LSt b lim h F0 lo fl rm s0 i F H os m fs) {p : Addr} (hp : H p = none) :
    ∃ F', Same F0 F' ∧ OrdAt F' (upd H p (.tup [.ref fl, .ref rm, .int m.left])) lo os ∧ DueIn F0 F' p m.fills m.rem m.left := by
  have o1 := (S.ord.frz S.hfl S.nfl).frz S.hrm S.nrm
  have o2 := (o1.new (o := .tup [.ref fl, .ref rm, .int m.left]) hp).frz (a := p) upd_same (o1.c.free hp)
  have flp : fl ≠ p := ne_of_none S.hfl hp
  have rmp : rm ≠ p := ne_of_none S.hrm hp
  have s1 : Same F (upd (upd F fl (.lst (fs.map fun x => .ref x.1))) rm (.lst (m.rem.map V.int))) := (Same.newH S.Ffl).trans (Same.newH (by rw [upd_ne S.flrm.symm]; exact S.Frm))
  have s2 := s1.trans (Same.newH (a := p) (o := .tup [.ref fl, .ref rm, .int m.left]) (o1.same.free hp))
  refine ⟨_, S.same.trans s2, o2, ⟨fl, rm, fs, ⟨upd_same, ?_, ?_, fun x hx => s2 _ _ (S.fsF x hx), S.fsm⟩, (S.same.trans s1).free (o1.same.free hp), S.same.free S.Ffl, S.same.free S.Frm, S.fsN⟩⟩
  · rw [upd_ne flp, upd_ne S.flrm, upd_same]
  · rw [upd_ne rmp, upd_same]
theorem lrow_left (o : Od) (v : Int) : (lrow o).set 4 (.int v) = lrow { o with left := v } := rfl
theorem lrow_vis (o : Od) (v : Int) : (lrow o).set 5 (.int v) = lrow { o with vis := v } := rfl
theorem ok_law_trade (T : Txt K mg A) : FnOk P w K mg base CX0 3 A.f_law_trade A.d_law_trade ["_law_orders", "_law_house_here", "_law_side", "_law_limit", "_law_quantity"] spTrade := by
  refine T.F_law_trade.ok sc_law_trade (fun vs H Q E h => ?_) (fun cdv Ar outer s H vs Q E hr h => ?_)
  · obtain ⟨_, _, _, _, _, _, _, rfl, _⟩ := h
    rfl
  · obtain ⟨F, lo, os0, h, b, lim, q, rfl, od, inv, hk0, hq0, hq1, hlen, k⟩ := h
    refine ⟨_, (pss_cons (ps_set (i := 5) sc_law_trade.nd rfl (Or.inl rfl) (pe_lst pa_nil))
      (pss_cons (ps_set (i := 6) sc_law_trade.nd rfl (Or.inl rfl) (pe_lst pa_nil))
      (pss_cons (ps_set (i := 7) sc_law_trade.nd rfl (Or.inl rfl) (pv 4))
      (pss_cons (ps_for PassesOwn.never rfl (pi_range1 (by rfl) T.z_range (pa_cons pe_int pa_nil)) (pg_name (i := 8) sc_law_trade.nd rfl (Or.inl rfl)) (pss_cons (ps_set (i := 9) sc_law_trade.nd rfl (Or.inl rfl) (pe_call (ok_law_first T) (hr.mono (by decide)) (by rfl) T.g_law_first T.F_law_first.kp T.b_law_first .nil pass0 (pa_cons (pv 0) (pa_cons (pe_call (ok_law_resting_side T) (hr.mono (by decide)) (by rfl) T.g_law_resting_side T.F_law_resting_side.kp T.b_law_resting_side .nil pass0 (pa_cons (pv 2) pa_nil)) (pa_cons (pv 3) pa_nil)))))
      (pss_cons (ps_if (PW.pt (pw_or (pt_cmpR op_eq (pv 7) pe_int (nomark _)) (pw_or1 (pt_cmpR op_isN (pv 9) pe_non (nomark _))))) (pss_one (ps_ret (pe_tup (pa_cons (pv 5) (pa_cons (pv 6) (pa_cons (pv 7) pa_nil)))))) pss_nil)
      (pss_one (ps_if (pt_cmpR op_eq (pe_ix ix_list (pv 9) pe_int (fun _ _ => rfl)) (pv 1) (nomark _)) (pss_cons (ps_expr (pe_bm PySem.F.plainAttrs_list PySem.F.slot_list_append PySem.F.type_list_append mt_append (pv 6) (pa_cons (pe_ix ix_list (pv 9) pe_int (fun _ _ => rfl)) pa_nil)))
      (pss_one (ps_expr (pe_bm PySem.F.plainAttrs_list PySem.F.slot_list_remove PySem.F.type_list_remove (mt_removeD (room65 hr)) (pv 0) (pa_cons (pv 9) pa_nil))))) (pss_cons (ps_set (i := 10) sc_law_trade.nd rfl (Or.inl rfl) (pe_callB (call_min2 rfl) (by rfl) T.z_min PyProof.Rows.boot_min (pa_cons (pv 7) (pa_cons (pe_ix ix_list (pv 9) pe_int (fun _ _ => rfl)) pa_nil))))
      (pss_cons (ps_expr (pe_bm PySem.F.plainAttrs_list PySem.F.slot_list_append PySem.F.type_list_append mt_append (pv 5) (pa_cons (pe_tup (pa_cons (pe_ix ix_list (pv 9) pe_int (fun _ _ => rfl)) (pa_cons (pe_ix ix_list (pv 9) pe_int (fun _ _ => rfl)) (pa_cons (pe_ix ix_list (pv 9) pe_int (fun _ _ => rfl)) (pa_cons (pv 10) pa_nil))))) pa_nil)))
      (pss_cons (ps_set (i := 7) sc_law_trade.nd rfl (Or.inl rfl) (pe_op op_sub (pv 7) (pv 10)))
      (pss_cons (ps_asg (pe_op op_sub (pe_ix ix_list (pv 9) pe_int (fun _ _ => rfl)) (pv 10)) (pg_sub (pv 9) pe_int set_list))
      (pss_cons (ps_asg (pe_op op_sub (pe_ix ix_list (pv 9) pe_int (fun _ _ => rfl)) (pv 10)) (pg_sub (pv 9) pe_int set_list))
      (pss_one (ps_if (pt_cmpR op_eq (pe_ix ix_list (pv 9) pe_int (fun _ _ => rfl)) pe_int (nomark _)) (pss_cons (ps_expr (pe_bm PySem.F.plainAttrs_list PySem.F.slot_list_remove PySem.F.type_list_remove (mt_removeD (room65 hr)) (pv 0) (pa_cons (pv 9) pa_nil)))
      (pss_one (ps_if (pt_cmpR op_gt (pe_ix ix_list (pv 9) pe_int (fun _ _ => rfl)) pe_int (nomark _)) (pss_cons (ps_asg (pe_call (ok_law_visible T) (hr.mono (by decide)) (by rfl) T.g_law_visible T.F_law_visible.kp T.b_law_visible .nil pass0 (pa_cons (pe_ix ix_list (pv 9) pe_int (fun _ _ => rfl)) (pa_cons (pe_ix ix_list (pv 9) pe_int (fun _ _ => rfl)) pa_nil))) (pg_sub (pv 9) pe_int set_list))
      (pss_one (ps_expr (pe_bm PySem.F.plainAttrs_list PySem.F.slot_list_append PySem.F.type_list_append mt_append (pv 0) (pa_cons (pv 9) pa_nil))))) pss_nil))) pss_nil))))))))))))
      (pss_one (ps_ret (pe_tup (pa_cons (pv 5) (pa_cons (pv 6) (pa_cons (pv 7) pa_nil)))))))))), ?_⟩
    refine ⟨Nat.zero_le _, fun fl hfl => ⟨Nat.zero_le _, fun rm hrm => ?_⟩⟩
    have flrm : fl ≠ rm := fun e => by rw [← e, upd_same] at hrm; cases hrm
    have hrm0 : H rm = none := by rwa [upd_ne flrm.symm] at hrm
    have od2 : OrdAt F (upd (upd H fl (.lst [])) rm (.lst [])) lo os0 := (od.new hfl).new hrm
    have st0 : LSt b lim h F lo fl rm ⟨os0.map (·.d), q, [], []⟩ 0 F (upd (upd H fl (.lst [])) rm (.lst [])) os0 ⟨os0.map (·.d), q, [], []⟩ [] := by
      refine ⟨Same.refl F, od2, rfl, (upd_ne flrm).trans upd_same, fun x hx => (nomatch hx), fun x hx => (nomatch hx), rfl, upd_same, flrm, od.same.free hfl, od.same.free hrm0, od.c.free hfl, od.c.free hrm0, inv, fun o ho => ?_, hq0, fun _ z => z, ?_, Nat.le_refl _, by omega⟩
      · obtain ⟨t, ht, rfl⟩ := List.mem_map.mp ho
        exact hk0 t ht
      · have h1 : (srt (!b) (os0.map (·.d))).length ≤ os0.length := by
          have h2 := len_srt (os0.map (·.d))
          rw [List.length_map] at h2
          cases b
          · show (srt true _).length ≤ _
            omega
          · show (srt false _).length ≤ _
            omega
        show (srt (!b) (os0.map (·.d))).length + q.toNat + 0 ≤ 1999
        omega
    generalize hs0 : (⟨os0.map (·.d), q, [], []⟩ : LS) = s0 at st0 k
    generalize upd (upd H fl (.lst [])) rm (.lst []) = H1 at st0
    refine ⟨_, rfl, 2000, rfl, by decide, by decide, for_range (lo := 0) (n := 2000)
      (fun i σ H' => ∃ F' os m fs v8 v9 v10, σ = [some (.ref lo), some (.str h), some (.str (sd b)), some (pV lim), some (.int q), some (.ref fl), some (.ref rm), some (.int m.left), v8, v9, v10] ∧ LSt b lim h F lo fl rm s0 i F' H' os m fs) ⟨F, os0, _, [], none, none, none, by rw [← hs0]; rfl, st0⟩ ?_ ?_⟩
    · rintro i σ H' hi ⟨F', os, m, fs, v8, v9, v10, rfl, S⟩
      have c := S.ord.c
      have nd := S.nd
      have hpr : ∀ t ∈ os, t.d.price = some t.d.pr := fun t ht => (S.inv.good t.d (by rw [← S.eo]; exact List.mem_map.mpr ⟨t, ht, rfl⟩)).2.2.2
      refine ⟨_, rfl, _, rfl, b, rfl, _, rfl, lo, os, !b, lim, rfl, c.l, c.o, hpr, ?_⟩
      have hmap : (lfirstG TL.d (!b) lim os).map (·.d) = lfirst (!b) lim m.os := by rw [lfirstG_map, S.eo]
      refine ⟨_, rfl, rfl, _, rfl, ?_⟩
      rw [int_eq]
      have ret : ldone (!b) lim m → ∀ p, H' p = none → Q (.ref p) (upd H' p (.tup [.ref fl, .ref rm, .int m.left])) := fun hd p hp => by
        obtain ⟨F2, h1, h2, h3⟩ := S.fin hp
        exact k F2 _ os m p h1 h2 (S.run _ (.done hd)) S.eo h3
      by_cases h0 : m.left = 0
      · refine iteTe (decide_eq_true h0) (iteT ?_)
        exact ⟨_, rfl, _, rfl, _, rfl, (by show 3 ≤ sizeLine; decide), ret (.inl h0)⟩
      refine iteFe (decide_eq_false h0) ?_
      refine ⟨_, rfl, rfl, _, rfl, ?_⟩
      cases hf : lfirstG TL.d (!b) lim os with
      | none =>
        rw [hf] at hmap
        refine iteTe rfl ?_
        exact ⟨_, rfl, _, rfl, _, rfl, (by show 3 ≤ sizeLine; decide), ret (.inr hmap.symm)⟩
      | some f =>
        rw [hf] at hmap
        have hlf : lfirst (!b) lim m.os = some f.d := hmap.symm
        have hfm := lfirstG_mem hf
        have ndn : ¬ ldone (!b) lim m := by
          rintro (z | z)
          · exact h0 z
          · rw [hlf] at z
            cases z
        have hof := c.o f hfm
        have hfp := hpr f hfm
        have hkos : ∀ u ∈ os, hOk u.d.house := fun u hu => S.hk u.d (by rw [← S.eo]; exact List.mem_map.mpr ⟨u, hu, rfl⟩)
        have cnt := S.cnt
        have ffl : f.a ≠ fl := fun e => S.nfl (.inr ⟨f, hfm, e.symm⟩)
        have frm : f.a ≠ rm := fun e => S.nrm (.inr ⟨f, hfm, e.symm⟩)
        have flo : fl ≠ lo := fun e => S.nfl (.inl e)
        have rlo : rm ≠ lo := fun e => S.nrm (.inl e)
        have hlo := c.ne f hfm
        obtain ⟨L1, L2, rfl⟩ := List.append_of_mem hfm
        refine iteFe rfl ?_
        refine ⟨_, rfl, _, _, _, _, rfl, rfl, SqL.of hof, at_of (j := 1) rfl rfl, _, rfl, rfl, _, rfl, ?_⟩
        rw [str_eq]
        by_cases hh : f.d.house = h
        · refine iteTe (decide_eq_true hh) ?_
          have es := lstep_own hlf hh
          refine ⟨_, rfl, .inl ⟨rfl, _, SqL.of S.hrm⟩, _, rfl, _, _, _, _, rfl, rfl, SqL.of hof, at_of (j := 0) rfl rfl, rm, _, _, rfl, rfl, S.hrm, by rw [List.length_map]; exact Nat.lt_of_le_of_lt (show m.rem.length ≤ 2000 by omega) (by decide), ?_⟩
          have o2 := S.ord.up (a := rm) (o := .lst (m.rem.map V.int ++ [.int f.d.num])) S.nrm S.Frm
          refine ⟨_, rfl, .inl ⟨rfl, _, SqL.of o2.c.l⟩, _, rfl, ?_⟩
          dsimp only [tNil]
          refine rem_ord o2.c nd hkos ?_
          have o3 := o2.part (L := L1 ++ L2) fun t ht => by
            rcases List.mem_append.mp ht with z | z
            · exact List.mem_append_left _ z
            · exact List.mem_append_right _ (List.mem_cons_of_mem _ z)
          have sub : ∀ {a : Addr}, oft lo (L1 ++ L2) a → oft lo (L1 ++ f :: L2) a := fun z => by
            rcases z with e | ⟨t, ht, e⟩
            · exact .inl e
            · refine .inr ⟨t, ?_, e⟩
              rcases List.mem_append.mp ht with z | z
              · exact List.mem_append_left _ z
              · exact List.mem_append_right _ (List.mem_cons_of_mem _ z)
          refine ⟨F', L1 ++ L2, lstep (!b) lim h m, fs, _, _, _, by rw [es]; rfl, S.step ndn (Same.refl _) o3 ?_ ?_ S.fsF S.fsN ?_ ?_ S.Ffl S.Frm (fun z => S.nfl (sub z)) (fun z => S.nrm (sub z))⟩
          · rw [rmv_at nd, S.eo, es]
          · rw [upd_ne flo, upd_ne S.flrm]
            exact S.hfl
          · rw [es]
            exact S.fsm
          · rw [upd_ne rlo, upd_same, es, List.map_append]
            rfl
        · refine iteFe (decide_eq_false hh) ?_
          have es := lstep_hit hlf hh
          have gf : Good f.d := S.inv.good f.d (by rw [← S.eo]; exact List.mem_map.mpr ⟨f, hfm, rfl⟩)
          refine ⟨_, rfl, _, rfl, _, _, _, _, rfl, rfl, SqL.of hof, at_of (j := 5) rfl rfl, _, _, rfl, ?_⟩
          refine ⟨_, rfl, .inl ⟨rfl, _, SqL.of S.hfl⟩, _, rfl, _, _, _, _, rfl, rfl, SqL.of hof, at_of (j := 0) rfl rfl, _, rfl, _, _, _, _, rfl, rfl, SqL.of hof, at_of (j := 1) rfl rfl, _, rfl, _, _, _, _, rfl, rfl, SqL.of hof, at_of (j := 3) rfl rfl, _, rfl, (by show 4 ≤ sizeLine; decide), fun p hp => ?_⟩
          have fp : fl ≠ p := ne_of_none S.hfl hp
          have rp : rm ≠ p := ne_of_none S.hrm hp
          have ap : f.a ≠ p := ne_of_none hof hp
          have lp : lo ≠ p := ne_of_none c.l hp
          have lfs : fs.length = m.fills.length := by rw [← S.fsm, List.length_map]
          refine ⟨fl, _, _, rfl, rfl, (upd_ne fp).trans S.hfl, by rw [List.length_map]; exact Nat.lt_of_le_of_lt (show fs.length ≤ 2000 by omega) (by decide), ?_⟩
          generalize hq' : minI m.left f.d.vis = qq at es
          have hqe : (if f.d.vis < m.left then f.d.vis else m.left) = qq := by rw [← hq']; rfl
          refine ⟨_, rfl, _, rfl, _, _, rfl, rfl, ?_⟩
          have eqrow : (.tup [V.int f.d.num, .str f.d.house, pV f.d.price, .int (if f.d.vis < m.left then f.d.vis else m.left)] : HO) = .tup (frow ⟨f.d.num, f.d.house, f.d.pr, qq⟩) := by rw [hqe, hfp]; rfl
          have eqrow' : (HO.tup [V.int f.d.num, .str f.d.house, pV f.d.price, .int qq] : HO) = .tup (frow ⟨f.d.num, f.d.house, f.d.pr, qq⟩) := by rw [hfp]; rfl
          have o1 : OrdAt F' (upd H' p (.tup (frow ⟨f.d.num, f.d.house, f.d.pr, qq⟩))) lo (L1 ++ f :: L2) := S.ord.new hp
          have o2 : OrdAt (upd F' p (.tup (frow ⟨f.d.num, f.d.house, f.d.pr, qq⟩))) (upd H' p (.tup (frow ⟨f.d.num, f.d.house, f.d.pr, qq⟩))) lo (L1 ++ f :: L2) := o1.frz upd_same (S.ord.c.free hp)
          have o3 : OrdAt (upd F' p (.tup (frow ⟨f.d.num, f.d.house, f.d.pr, qq⟩))) (upd (upd H' p (.tup (frow ⟨f.d.num, f.d.house, f.d.pr, qq⟩))) fl (.lst ((fs.map fun x => V.ref x.1) ++ [.ref p]))) lo (L1 ++ f :: L2) := o2.up S.nfl (by rw [upd_ne fp]; exact S.Ffl)
          have o4 := o3.set nd (hit f.d qq)
          have sFp : Same F' (upd F' p (.tup (frow ⟨f.d.num, f.d.house, f.d.pr, qq⟩))) := Same.newH (S.ord.same.free hp)
          have fsF2 : ∀ x ∈ fs ++ [(p, (⟨f.d.num, f.d.house, f.d.pr, qq⟩ : Fl))], upd F' p (.tup (frow ⟨f.d.num, f.d.house, f.d.pr, qq⟩)) x.1 = some (.tup (frow x.2)) := fun x hx => by
            rcases List.mem_append.mp hx with hx | hx
            · exact sFp _ _ (S.fsF x hx)
            · rw [List.mem_singleton.mp hx]
              exact upd_same
          have fsN2 : ∀ x ∈ fs ++ [(p, (⟨f.d.num, f.d.house, f.d.pr, qq⟩ : Fl))], F x.1 = none := fun x hx => by
            rcases List.mem_append.mp hx with hx | hx
            · exact S.fsN x hx
            · rw [List.mem_singleton.mp hx]
              exact S.same.free (S.ord.same.free hp)
          have fsm2 : (fs ++ [(p, (⟨f.d.num, f.d.house, f.d.pr, qq⟩ : Fl))]).map (·.2) = m.fills ++ [⟨f.d.num, f.d.house, f.d.pr, qq⟩] := by rw [List.map_append, S.fsm]; rfl
          have hof3 : upd (upd H' p (.tup (frow ⟨f.d.num, f.d.house, f.d.pr, qq⟩))) fl (.lst ((fs.map fun x => V.ref x.1) ++ [.ref p])) f.a = some (.lst (lrow f.d)) := (upd_ne ffl).trans ((upd_ne ap).trans hof)
          have hfl4 : upd (upd (upd H' p (.tup (frow ⟨f.d.num, f.d.house, f.d.pr, qq⟩))) fl (.lst ((fs.map fun x => V.ref x.1) ++ [.ref p]))) f.a (.lst (lrow (hit f.d qq))) fl = some (.lst ((fs ++ [(p, (⟨f.d.num, f.d.house, f.d.pr, qq⟩ : Fl))]).map fun x => V.ref x.1)) := by
            rw [upd_ne ffl.symm, upd_same, List.map_append]
            rfl
          have hrm4 : upd (upd (upd H' p (.tup (frow ⟨f.d.num, f.d.house, f.d.pr, qq⟩))) fl (.lst ((fs.map fun x => V.ref x.1) ++ [.ref p]))) f.a (.lst (lrow (hit f.d qq))) rm = some (.lst (m.rem.map V.int)) := by
            rw [upd_ne frm.symm, upd_ne S.flrm.symm, upd_ne rp]
            exact S.hrm
          rw [hqe, eqrow']
          generalize hH3 : upd (upd H' p (.tup (frow ⟨f.d.num, f.d.house, f.d.pr, qq⟩))) fl (.lst ((fs.map fun x => V.ref x.1) ++ [.ref p])) = H3 at o3 o4 hof3 hfl4 hrm4 ⊢
          generalize hF2 : upd F' p (.tup (frow ⟨f.d.num, f.d.house, f.d.pr, qq⟩)) = F2 at o2 o3 o4 sFp fsF2
          have Ffl2 : F2 fl = none := by rw [← hF2, upd_ne fp]; exact S.Ffl
          have Frm2 : F2 rm = none := by rw [← hF2, upd_ne rp]; exact S.Frm
          have Ff2 : F2 f.a = none := o3.out _ (.inr ⟨f, hfm, rfl⟩)
          refine ⟨_, rfl, _, _, _, _, rfl, rfl, SqL.of hof3, at_of (j := 4) rfl rfl, _, rfl, _, _, rfl, rfl, _, rfl, f.a, _, _, 4, rfl, rfl, hof3, rfl, ?_⟩
          rw [lrow_left]
          refine ⟨_, rfl, _, _, _, _, rfl, rfl, SqL.of upd_same, at_of (j := 5) rfl rfl, _, rfl, _, _, rfl, rfl, _, rfl, f.a, _, _, 5, rfl, rfl, upd_same, rfl, ?_⟩
          rw [lrow_vis, upd_upd]
          rw [show (⟨f.d.num, f.d.house, f.d.buy, f.d.price, f.d.left - qq, f.d.shown, f.d.vis - qq⟩ : Od) = hit f.d qq from rfl]
          refine ⟨_, rfl, _, _, _, _, rfl, rfl, SqL.of upd_same, at_of (j := 5) rfl rfl, rfl, _, rfl, ?_⟩
          rw [int_eq]
          have nd4 : ((L1 ++ { f with d := hit f.d qq } :: L2).map (·.d.num)).Nodup := by
            rw [List.map_append, List.map_cons] at nd ⊢
            exact nd
          have hk4 : ∀ u ∈ L1 ++ { f with d := hit f.d qq } :: L2, hOk u.d.house := fun u hu => by
            rcases List.mem_append.mp hu with z | z
            · exact hkos u (List.mem_append_left _ z)
            · rcases List.mem_cons.mp z with z | z
              · rw [z]
                exact hkos f hfm
              · exact hkos u (List.mem_append_right _ (List.mem_cons_of_mem _ z))
          have sub4 : ∀ {a : Addr}, oft lo (L1 ++ { f with d := hit f.d qq } :: L2) a → oft lo (L1 ++ f :: L2) a := fun z => by
            rcases z with e | ⟨t, ht, e⟩
            · exact .inl e
            · rcases List.mem_append.mp ht with z | z
              · exact .inr ⟨t, List.mem_append_left _ z, e⟩
              · rcases List.mem_cons.mp z with z | z
                · exact .inr ⟨f, hfm, by rw [e, z]⟩
                · exact .inr ⟨t, List.mem_append_right _ (List.mem_cons_of_mem _ z), e⟩
          have sub5 : ∀ {a : Addr}, oft lo (L1 ++ L2) a → oft lo (L1 ++ f :: L2) a := fun z => by
            rcases z with e | ⟨t, ht, e⟩
            · exact .inl e
            · refine .inr ⟨t, ?_, e⟩
              rcases List.mem_append.mp ht with z | z
              · exact List.mem_append_left _ z
              · exact List.mem_append_right _ (List.mem_cons_of_mem _ z)
          have mem5 : ∀ t ∈ L1 ++ L2, t ∈ L1 ++ { f with d := hit f.d qq } :: L2 := fun t ht => by
            rcases List.mem_append.mp ht with z | z
            · exact List.mem_append_left _ z
            · exact List.mem_append_right _ (List.mem_cons_of_mem _ z)
          have eb := S.eo
          by_cases hv : f.d.vis - qq = 0
          case neg =>
            refine iteFe (decide_eq_false hv) ?_
            refine ⟨F2, L1 ++ { f with d := hit f.d qq } :: L2, lstep (!b) lim h m, _, _, _, _, by rw [es]; rfl, S.step ndn sFp o4 ?_ hfl4 fsF2 fsN2 (by rw [es]; exact fsm2) (by rw [es]; exact hrm4) Ffl2 Frm2 (fun z => S.nfl (sub4 z)) (fun z => S.nrm (sub4 z))⟩
            rw [setN_L nd, eb, es]
            show _ = lback (hit f.d qq) m.os
            unfold lback
            rw [if_neg (show ¬ (hit f.d qq).vis = 0 from hv)]
            rfl
          refine iteTe (decide_eq_true hv) ?_
          refine ⟨_, rfl, .inl ⟨rfl, _, SqL.of o4.c.l⟩, _, rfl, ?_⟩
          dsimp only [tNil]
          refine rem_ord (t := { f with d := hit f.d qq }) o4.c nd4 hk4 ?_
          have o5 := o4.part (L := L1 ++ L2) mem5
          have hof5 : upd (upd H3 f.a (.lst (lrow (hit f.d qq)))) lo (.lst ((L1 ++ L2).map TL.ref)) f.a = some (.lst (lrow (hit f.d qq))) := (upd_ne hlo).trans upd_same
          have hfl5 : upd (upd H3 f.a (.lst (lrow (hit f.d qq)))) lo (.lst ((L1 ++ L2).map TL.ref)) fl = _ := (upd_ne flo).trans hfl4
          have hrm5 : upd (upd H3 f.a (.lst (lrow (hit f.d qq)))) lo (.lst ((L1 ++ L2).map TL.ref)) rm = _ := (upd_ne rlo).trans hrm4
          have erm : (L1 ++ L2).map (·.d) = rmv f.d.num m.os := by rw [rmv_at nd, eb]
          have llen : (L1 ++ L2).length < sizeLine := by
            have h1 := S.len
            rw [List.length_append, List.length_cons] at h1
            rw [List.length_append]
            exact Nat.lt_of_le_of_lt (show L1.length + L2.length ≤ 1000 by omega) (by decide)
          have o5l := o5.c.l
          generalize upd (upd H3 f.a (.lst (lrow (hit f.d qq)))) lo (.lst ((L1 ++ L2).map TL.ref)) = H5 at o5 hof5 hfl5 hrm5 o5l
          refine ⟨_, rfl, _, _, _, _, rfl, rfl, SqL.of hof5, at_of (j := 4) rfl rfl, _, _, rfl, rfl, _, rfl, ?_⟩
          show if decide (0 < f.d.left - qq) = true then _ else _
          by_cases hl0 : 0 < f.d.left - qq
          case neg =>
            refine iteFe (decide_eq_false hl0) ?_
            refine ⟨F2, L1 ++ L2, lstep (!b) lim h m, _, _, _, _, by rw [es]; rfl, S.step ndn sFp o5 ?_ hfl5 fsF2 fsN2 (by rw [es]; exact fsm2) (by rw [es]; exact hrm5) Ffl2 Frm2 (fun z => S.nfl (sub5 z)) (fun z => S.nrm (sub5 z))⟩
            rw [erm, es]
            show _ = lback (hit f.d qq) m.os
            unfold lback
            rw [if_pos (show (hit f.d qq).vis = 0 from hv), if_neg (show ¬ 0 < (hit f.d qq).left from hl0)]
            rfl
          refine iteTe (decide_eq_true hl0) ?_
          refine ⟨_, rfl, _, _, _, _, rfl, rfl, SqL.of hof5, at_of (j := 4) rfl rfl, _, rfl, _, _, _, _, rfl, rfl, SqL.of hof5, at_of (j := 6) rfl rfl, _, _, rfl, _, rfl, f.a, _, _, 5, rfl, rfl, hof5, rfl, ?_⟩
          rw [lrow_vis]
          have nf5 : ¬ oft lo (L1 ++ L2) f.a := by
            rintro (e | ⟨t, ht, e⟩)
            · exact hlo e
            · rcases List.mem_append.mp ht with z | z
              · exact c.apart hfm (List.mem_append_left _ z) (nd_split nd t (.inl z)) e.symm
              · exact c.apart hfm (List.mem_append_right _ (List.mem_cons_of_mem _ z)) (nd_split nd t (.inr z)) e.symm
          have o6 := o5.up (o := .lst (lrow { hit f.d qq with vis := lvis (f.d.left - qq) f.d.shown })) nf5 Ff2
          have o7 := o6.snoc (t := { f with d := { hit f.d qq with vis := lvis (f.d.left - qq) f.d.shown } }) upd_same hlo Ff2
          refine ⟨_, rfl, .inl ⟨rfl, _, SqL.of o6.c.l⟩, _, rfl, lo, _, _, rfl, rfl, o6.c.l, by rw [List.length_map]; exact llen, ?_⟩
          have sub7 : ∀ {a : Addr}, oft lo (L1 ++ L2 ++ [{ f with d := { hit f.d qq with vis := lvis (f.d.left - qq) f.d.shown } }]) a → oft lo (L1 ++ f :: L2) a := fun z => by
            rcases z with e | ⟨t, ht, e⟩
            · exact .inl e
            · rcases List.mem_append.mp ht with z | z
              · exact sub5 (.inr ⟨t, z, e⟩)
              · rw [List.mem_singleton.mp z] at e
                exact .inr ⟨f, hfm, e⟩
          refine ⟨F2, _, lstep (!b) lim h m, _, _, _, _, by rw [es]; rfl, S.step ndn sFp o7 ?_ ((upd_ne flo).trans ((upd_ne ffl.symm).trans hfl5)) fsF2 fsN2 (by rw [es]; exact fsm2) (by rw [es]; exact (upd_ne rlo).trans ((upd_ne frm.symm).trans hrm5)) Ffl2 Frm2 (fun z => S.nfl (sub7 z)) (fun z => S.nrm (sub7 z))⟩
          rw [List.map_append, erm, es]
          show _ = lback (hit f.d qq) m.os
          unfold lback
          rw [if_pos (show (hit f.d qq).vis = 0 from hv), if_pos (show 0 < (hit f.d qq).left from hl0)]
          rfl
    · rintro σ H' ⟨F', os, m, fs, v8, v9, v10, rfl, S⟩
      have := S.bnd
      omega
end
end K29
end

section
set_option Elab.async false
set_option maxRecDepth 100000
set_option maxHeartbeats 4000000
set_option linter.unusedVariables false
/-! the law: _law_enter, _law_listed -/
namespace K29
open PySem L2
section
variable {P : Program} {w : World} {K : PySem.W.Frag} {mg : Str → Option Value} {base : Heap} {A : Ad}
def spLEnter : Sp := fun vs H Q _ => ∃ (F : Hp) (lo : Addr) (os : List TL) (o : Od) (r : Bool), vs = [.ref lo, .int o.num, .str o.house, .str (sd o.buy), pV o.price, .int o.left, .str (kd r), .int o.shown] ∧ OrdAt F H lo os ∧ LInv (os.map (·.d)) ∧ (∀ t ∈ os, hOk t.d.house) ∧ 0 ≤ o.left ∧ o.left ≤ 1000 ∧ os.length ≤ 900 ∧
  ∀ F' H' os' p rp, Same F F' → OrdAt F' H' lo os' → LEnterR r (os.map (·.d)) o (os'.map (·.d)) rp → DueIn F F' p rp.fills rp.rem rp.rest → Q (.ref p) H'
theorem ok_law_enter (T : Txt K mg A) : FnOk P w K mg base CX0 4 A.f_law_enter A.d_law_enter ["_law_orders", "_law_number", "_law_house_here", "_law_side", "_law_limit", "_law_quantity", "_law_kind", "_law_shown"] spLEnter := by
  refine T.F_law_enter.ok sc_law_enter (fun vs H Q E h => ?_) (fun cdv Ar outer s H vs Q E hr h => ?_)
  · obtain ⟨_, _, _, _, _, rfl, _⟩ := h
    rfl
  · obtain ⟨F, lo, os, o, r, rfl, od, inv, hk0, hq0, hq1, hlen, k⟩ := h
    refine ⟨_, (pss_cons (ps_if (PW.pt (pw_and (pt_cmpR op_eq (pv 6) pe_str (nomark _)) (pw_and1 pt_never))) (pss_one ps_never) pss_nil)
      (pss_cons (ps_asg (pe_call (ok_law_trade T) (hr.mono (by decide)) (by rfl) T.g_law_trade T.F_law_trade.kp T.b_law_trade .nil pass0 (pa_cons (pv 0) (pa_cons (pv 2) (pa_cons (pv 3) (pa_cons (pv 4) (pa_cons (pv 5) pa_nil)))))) (pg_tup (by rfl) (pgs_cons (pg_name (i := 8) sc_law_enter.nd rfl (Or.inl rfl)) (pgs_cons (pg_name (i := 9) sc_law_enter.nd rfl (Or.inl rfl)) (pgs_cons (pg_name (i := 10) sc_law_enter.nd rfl (Or.inl rfl)) pgs_nil)))))
      (pss_cons (ps_if (PW.pt (pw_and (pt_cmpR op_eq (pv 6) pe_str (nomark _)) (pw_and1 (pt_cmpR op_gt (pv 10) pe_int (nomark _))))) (pss_cons (ps_expr (pe_bm PySem.F.plainAttrs_list PySem.F.slot_list_append PySem.F.type_list_append mt_append (pv 0) (pa_cons (pe_lst (pa_cons (pv 1) (pa_cons (pv 2) (pa_cons (pv 3) (pa_cons (pv 4) (pa_cons (pv 10) (pa_cons (pe_call (ok_law_visible T) (hr.mono (by decide)) (by rfl) T.g_law_visible T.F_law_visible.kp T.b_law_visible .nil pass0 (pa_cons (pv 10) (pa_cons (pv 7) pa_nil))) (pa_cons (pv 7) pa_nil)))))))) pa_nil)))
      (pss_one (ps_ret (pe_tup (pa_cons (pv 8) (pa_cons (pv 9) (pa_cons (pv 10) pa_nil))))))) pss_nil)
      (pss_one (ps_ret (pe_tup (pa_cons (pv 8) (pa_cons (pv 9) (pa_cons pe_int pa_nil))))))))), ?_⟩
    refine ⟨_, rfl, rfl, _, rfl, iteFe (kd_all r) (iteF ?_)⟩
    refine ⟨_, rfl, _, rfl, _, rfl, _, rfl, _, rfl, F, lo, os, o.house, o.buy, o.price, o.left, rfl, od, inv, hk0, hq0, hq1, hlen, fun F' H' os' t p sF od' run eo due => ?_⟩
    obtain ⟨fl, rm, fs, ⟨d1, d2, d3, d4, d5⟩, n1, n2, n3, n4⟩ := due
    have lr := run.rel inv hq0
    refine ⟨p, _, rfl, SqT.of (od'.same _ _ d1), rfl, _, _, rfl, _, _, rfl, _, _, rfl, rfl, ?_⟩
    have out : ∀ (z : Int) (H3 : Hp) (os3 : List TL), (fun _ => z) () = (if rests r t.left then t.left else 0) → OrdAt F' H3 lo os3 → os3.map (·.d) = lrest r o t → ∀ q, H3 q = none → Q (.ref q) (upd H3 q (.tup [.ref fl, .ref rm, .int z])) := by
      intro z H3 os3 ez od3 e3 q hq
      have od4 := (od3.new (o := .tup [.ref fl, .ref rm, .int z]) hq).frz (a := q) upd_same (od3.c.free hq)
      have s4 : Same F' (upd F' q (.tup [.ref fl, .ref rm, .int z])) := Same.newH (od3.same.free hq)
      refine k _ _ os3 q ⟨o.num, o.house, o.buy, t.fills, t.rem, z⟩ (sF.trans s4) od4 ⟨t, run, e3, ?_⟩ ⟨fl, rm, fs, ⟨upd_same, s4 _ _ d2, s4 _ _ d3, fun x hx => s4 _ _ (d4 x hx), d5⟩, sF.free (od3.same.free hq), n2, n3, n4⟩
      unfold endRp
      rw [← ez]
    refine ⟨_, rfl, rfl, _, rfl, ?_⟩
    rw [kd_rest]
    have plain : ¬ rests r t.left → lrest r o t = t.os := fun h => if_neg h
    cases r with
    | false =>
      refine iteF (iteF ?_)
      have hn : ¬ rests false t.left := fun z => by cases z.1
      exact ⟨_, rfl, _, rfl, (by show 3 ≤ sizeLine; decide), out 0 H' os' (by rw [if_neg hn]) od' (by rw [plain hn, eo])⟩
    | true =>
      refine iteT ?_
      refine ⟨_, rfl, _, _, rfl, rfl, _, rfl, ?_⟩
      show if decide (0 < t.left) = true then _ else _
      by_cases hl : 0 < t.left
      case neg =>
        refine iteFe (decide_eq_false hl) ?_
        have hn : ¬ rests true t.left := fun z => hl z.2
        exact ⟨_, rfl, _, rfl, (by show 3 ≤ sizeLine; decide), out 0 H' os' (by rw [if_neg hn]) od' (by rw [plain hn, eo])⟩
      refine iteTe (decide_eq_true hl) ?_
      have hn : rests true t.left := ⟨rfl, hl⟩
      refine ⟨_, rfl, .inl ⟨rfl, _, SqL.of od'.c.l⟩, _, rfl, _, rfl, _, rfl, _, rfl, _, rfl, _, rfl, _, rfl, _, _, rfl, _, rfl, (by show 7 ≤ sizeLine; decide), fun l hl2 => ?_⟩
      have ol := od'.new (o := .lst (lrow { o with left := t.left, vis := lvis t.left o.shown })) hl2
      have lol : l ≠ lo := fun e => by rw [e, od'.c.l] at hl2; cases hl2
      have ol2 := ol.snoc (t := ⟨l, { o with left := t.left, vis := lvis t.left o.shown }⟩) upd_same lol (od'.same.free hl2)
      have e1 : os'.length = t.os.length := by rw [← eo, List.length_map]
      have e2 := lr.len
      rw [List.length_map] at e2
      refine ⟨lo, _, _, rfl, rfl, ol.c.l, by rw [List.length_map]; exact Nat.lt_of_le_of_lt (show os'.length ≤ 1000 by omega) (by decide), ?_⟩
      exact ⟨_, rfl, _, rfl, _, rfl, (by show 3 ≤ sizeLine; decide), out t.left _ _ (by rw [if_pos hn]) ol2 (by rw [List.map_append, eo]; exact (if_pos hn).symm)⟩
/-- a list R that is being filled, while the list D shrinks -/
def FillX (K : PySem.W.Frag) (H0 H : Hp) (R D : Addr) (ds : List PyData) : Prop := ∃ (F : Hp) (vs : List V), Same H0 F ∧ F R = none ∧ F D = none ∧ Same F H ∧ H R = some (.lst vs) ∧ DpAll K F vs ds
theorem FillX.same {H0 H : Hp} {R D : Addr} {ds : List PyData} (f : FillX K H0 H R D ds) : Same H0 H := by
  obtain ⟨F, vs, s0, _, _, s1, _, _⟩ := f
  exact s0.trans s1
theorem srt_all {b : Bool} {os : List Od} (h : ∀ o ∈ os, o.buy = b) : (srt b os).length = os.length := by
  rw [(srt_perm b os).length_eq]
  congr 1
  rw [List.filter_eq_self]
  intro o ho
  rw [h o ho]
  simp
theorem acc_none (b : Bool) (p : Int) : acc b none p = true := rfl
def spListed (K : PySem.W.Frag) : Sp := fun vs H Q _ => ∃ (lo : Addr) (os : List TL) (b : Bool), vs = [.ref lo, .str (sd b)] ∧ OCells H lo os ∧ LInv (os.map (·.d)) ∧ (∀ t ∈ os, hOk t.d.house) ∧ os.length ≤ 1000 ∧
  ∀ H' p, Same H H' → Dp K H' (.ref p) (.list ((srt b (os.map (·.d))).map odata)) → Q (.ref p) H'
theorem ok_law_listed (T : Txt K mg A) : FnOk P w K mg base CX0 3 A.f_law_listed A.d_law_listed ["_law_orders", "_law_side"] (spListed K) := by
  refine T.F_law_listed.ok sc_law_listed (fun vs H Q E h => ?_) (fun cdv Ar outer s H vs Q E hr h => ?_)
  · obtain ⟨_, _, _, rfl, _⟩ := h
    rfl
  · obtain ⟨lo, os, b, rfl, c, inv, hk0, hlen, k⟩ := h
    refine ⟨_, (pss_cons (ps_setLc (i := 2) (own := [("_law_order", 3)]) (g := gName 3) (tt := tTest (tOp rEq (tOp (rIxL K) (tVar 3) (tC (.int 2))) (tVar 1))) (te := tVar 3) rfl sc_law_listed.nd rfl rfl (sw_true rfl rfl rfl (by decide +kernel)) (pi_list (pv 0)) (blkOk_by (N := ["_law_orders", "_law_side", "_law_kept", "_law_order", "_law_rows", "_law_step", "_law_first_here"]) (sc := defScope s_law_listed) (by decide +kernel)) (fun _ _ _ _ _ => pg_name (i := 3) sc_law_listed.nd rfl (Or.inl rfl)) (fun _ _ _ _ _ => pts_one (pt_cmpR op_eq (pe_ix ix_list (pv 3) pe_int (fun _ _ => rfl)) (pv 1) (nomark _))) (fun _ _ _ _ _ => pv 3))
      (pss_cons (ps_set (i := 4) sc_law_listed.nd rfl (Or.inl rfl) (pe_lst pa_nil))
      (pss_cons (ps_for PassesOwn.never rfl (pi_range1 (by rfl) T.z_range (pa_cons (pe_callB call_len_seq (by rfl) T.z_len PySem.boot_len (pa_cons (pv 2) pa_nil)) pa_nil)) (pg_name (i := 5) sc_law_listed.nd rfl (Or.inl rfl)) (pss_cons (ps_set (i := 6) sc_law_listed.nd rfl (Or.inl rfl) (pe_call (ok_law_first T) (hr.mono (by decide)) (by rfl) T.g_law_first T.F_law_first.kp T.b_law_first .nil pass0 (pa_cons (pv 2) (pa_cons (pv 1) (pa_cons pe_non pa_nil)))))
      (pss_cons (ps_expr (pe_bm PySem.F.plainAttrs_list PySem.F.slot_list_append PySem.F.type_list_append mt_append (pv 4) (pa_cons (pe_tup (pa_cons (pe_ix ix_list (pv 6) pe_int (fun _ _ => rfl)) (pa_cons (pe_ix ix_list (pv 6) pe_int (fun _ _ => rfl)) (pa_cons (pe_ix ix_list (pv 6) pe_int (fun _ _ => rfl)) (pa_cons (pe_ix ix_list (pv 6) pe_int (fun _ _ => rfl)) (pa_cons (pe_ix ix_list (pv 6) pe_int (fun _ _ => rfl)) pa_nil)))))) pa_nil)))
      (pss_one (ps_expr (pe_bm PySem.F.plainAttrs_list PySem.F.slot_list_remove PySem.F.type_list_remove (mt_removeD (room65 hr)) (pv 2) (pa_cons (pv 6) pa_nil)))))))
      (pss_one (ps_ret (pv 4)))))), ?_⟩
    refine ⟨_, rfl, lo, rfl, ⟨_, SqL.of c.l⟩, fun D hD => ?_⟩
    have oD : ∀ o, ∀ t ∈ os, LAt (upd H D o) t := fun o t ht => Same.newH hD _ _ (c.o t ht)
    refine lc_list (K := K) (a := lo) (xs := os.map TL.ref) (fun i H' => H' = upd H D (.lst (((os.take i).filter fun u => decide (u.d.buy = b)).map TL.ref))) rfl (fun i H' _ e => by rw [e]; exact SqL.of (Same.newH hD _ _ c.l)) ?_ ?_
    · rintro i x H' hi rfl
      obtain ⟨u, hu, rfl⟩ := TL.ref_ix hi
      have hou := oD (.lst (((os.take i).filter fun u => decide (u.d.buy = b)).map TL.ref)) u (List.mem_of_getElem? hu)
      refine ⟨rfl, ?_⟩
      refine ⟨_, rfl, _, _, _, _, rfl, rfl, SqL.of hou, at_of (j := 2) rfl rfl, _, rfl, rfl, _, rfl, ?_⟩
      show if decide (V.str (sd u.d.buy) = V.str (sd b)) = true then _ else _
      rw [sd_eq, take_snoc hu, List.filter_append, List.filter_cons]
      by_cases hn : u.d.buy = b
      · refine iteTe (decide_eq_true hn) ?_
        refine ⟨_, rfl, _, upd_same, ?_, ?_⟩
        · rw [List.length_map]
          exact Nat.lt_of_le_of_lt (Nat.le_trans (List.length_filter_le _ _) (by rw [List.length_take]; exact Nat.le_trans (Nat.min_le_right _ _) hlen)) (show 1000 < sizeLine by decide)
        · rw [upd_upd, if_pos (by simpa using hn), List.filter_nil, List.map_append]
          rfl
      · refine iteFe (decide_eq_false hn) ?_
        rw [if_neg (by simpa using hn), List.filter_nil, List.append_nil]
    · rintro H1 rfl
      rw [List.length_map, List.take_length]
      refine ⟨Nat.zero_le _, fun R hR => ?_⟩
      generalize hks : (os.filter fun u => decide (u.d.buy = b)) = ks0 at hR ⊢
      have DR : D ≠ R := fun e => by rw [← e, upd_same] at hR; cases hR
      have hR0 : H R = none := by rwa [upd_ne DR.symm] at hR
      have mem0 : ∀ t ∈ ks0, t ∈ os ∧ t.d.buy = b := fun t ht => by
        rw [← hks] at ht
        obtain ⟨h1, h2⟩ := List.mem_filter.mp ht
        exact ⟨h1, by simpa using h2⟩
      have nd0 : (ks0.map (·.d.num)).Nodup := by
        rw [← hks]
        have := inv.nd
        rw [← map_num] at this
        exact this.sublist (List.filter_sublist.map _)
      have e0 : srt b (ks0.map (·.d)) = srt b (os.map (·.d)) := by
        have h1 : ks0.map (·.d) = (os.map (·.d)).filter fun o => decide (o.buy = b) := by
          rw [← hks, List.filter_map]
          rfl
        rw [h1, srt_filter, List.filter_eq_self]
        intro o ho
        exact decide_eq_true ((mem_srt _).mp ho).2
      have len0 : ks0.length ≤ os.length := by rw [← hks]; exact List.length_filter_le _ _
      refine ⟨_, rfl, _, _, rfl, .inl (SqL.of ((upd_ne DR).trans upd_same)), _, rfl, ?_, ?_, for_range (lo := 0) (n := (ks0.map TL.ref).length)
        (fun i σ H' => ∃ (ks : List TL) (ds : List PyData) (v3 v5 v6 : Option V), σ = [some (.ref lo), some (.str (sd b)), some (.ref D), v3, some (.ref R), v5, v6] ∧ ks.length + i = ks0.length ∧ (∀ t ∈ ks, t ∈ ks0) ∧ (ks.map (·.d.num)).Nodup ∧ H' D = some (.lst (ks.map TL.ref)) ∧ FillX K H H' R D ds ∧ ds.length = i ∧ ds ++ (srt b (ks.map (·.d))).map odata = (srt b (os.map (·.d))).map odata)
        ⟨ks0, [], _, _, _, rfl, rfl, fun t ht => ht, nd0, (upd_ne DR).trans upd_same, ⟨H, [], Same.refl _, hR0, hD, (Same.newH hD).trans (Same.newH hR), upd_same, .nil⟩, rfl, by rw [e0]; rfl⟩ ?_ ?_⟩
      · rw [List.length_map]
        have : (2 : Int) ^ 62 = 4611686018427387904 := by decide
        omega
      · rw [List.length_map]
        have : (2 : Int) ^ 62 = 4611686018427387904 := by decide
        omega
      · rintro i σ H' hi ⟨ks, ds, v3, v5, v6, rfl, hlk, mem, nd, hDk, fx, lds, eds⟩
        rw [List.length_map] at hi
        have hLA : ∀ t ∈ ks, LAt H' t := fun t ht => fx.same _ _ (c.o t (mem0 t (mem t ht)).1)
        have good : ∀ t ∈ ks, t.d.price = some t.d.pr := fun t ht => (inv.good t.d (List.mem_map.mpr ⟨t, (mem0 t (mem t ht)).1, rfl⟩)).2.2.2
        have hkk : ∀ t ∈ ks, hOk t.d.house := fun t ht => hk0 t (mem0 t (mem t ht)).1
        refine ⟨_, rfl, _, rfl, D, ks, b, none, rfl, hDk, hLA, good, ?_⟩
        have hl : (srt b (ks.map (·.d))).length = ks.length := by
          rw [srt_all fun o ho => ?_, List.length_map]
          obtain ⟨t, ht, rfl⟩ := List.mem_map.mp ho
          exact (mem0 t (mem t ht)).2
        have hmap := lfirstG_map TL.d b none ks
        rw [show lfirstG id b none (ks.map TL.d) = lfirst b none (ks.map TL.d) from rfl, lfirst_eq] at hmap
        cases hs : srt b (ks.map (·.d)) with
        | nil =>
          rw [hs] at hl
          simp at hl
          omega
        | cons g L =>
          rw [hs] at hmap
          have hm2 : (lfirstG TL.d b none ks).map TL.d = some g := hmap
          cases hf : lfirstG TL.d b none ks with
          | none =>
            rw [hf] at hm2
            cases hm2
          | some f =>
            rw [hf] at hm2
            have eg : f.d = g := Option.some.inj hm2
            have hfm := lfirstG_mem hf
            have hof := hLA f hfm
            have hDne : ∀ t ∈ ks, t.a ≠ D := fun t ht => ne_of_none (c.o t (mem0 t (mem t ht)).1) hD
            obtain ⟨L1, L2, rfl⟩ := List.append_of_mem hfm
            obtain ⟨F, ws, s0, FR, FD, s1, hws, aws⟩ := fx
            refine ⟨_, rfl, .inl ⟨rfl, _, SqL.of hws⟩, _, rfl, _, _, _, _, rfl, rfl, SqL.of hof, at_of (j := 0) rfl rfl, _, rfl, _, _, _, _, rfl, rfl, SqL.of hof, at_of (j := 1) rfl rfl, _, rfl, _, _, _, _, rfl, rfl, SqL.of hof, at_of (j := 3) rfl rfl, _, rfl, _, _, _, _, rfl, rfl, SqL.of hof, at_of (j := 4) rfl rfl, _, rfl, _, _, _, _, rfl, rfl, SqL.of hof, at_of (j := 5) rfl rfl, (by show 5 ≤ sizeLine; decide), fun p hp => ?_⟩
            have Rp : R ≠ p := ne_of_none hws hp
            have Dp_ : D ≠ p := ne_of_none hDk hp
            have lws : ws.length = ds.length := dpa_len aws
            refine ⟨R, _, _, rfl, rfl, (upd_ne Rp).trans hws, Nat.lt_of_le_of_lt (show ws.length ≤ 1000 by omega) (by decide), ?_⟩
            have hDk2 : upd (upd H' p (.tup (orow f.d))) R (.lst (ws ++ [.ref p])) D = some (.lst ((L1 ++ f :: L2).map TL.ref)) := (upd_ne DR).trans ((upd_ne Dp_).trans hDk)
            have sF2 : Same F (upd F p (.tup (orow f.d))) := Same.newH (s1.free hp)
            have F2R : upd F p (.tup (orow f.d)) R = none := (upd_ne Rp).trans FR
            have s2 : Same (upd F p (.tup (orow f.d))) (upd (upd H' p (.tup (orow f.d))) R (.lst (ws ++ [.ref p]))) := Same.up (fun a u e => by
              by_cases q : a = p
              · rw [q, upd_same] at e ⊢
                exact e
              · rw [upd_ne q] at e ⊢
                exact s1 a u e) F2R
            have hLA2 : ∀ t ∈ L1 ++ f :: L2, LAt (upd (upd H' p (.tup (orow f.d))) R (.lst (ws ++ [.ref p]))) t := fun t ht => s2 _ _ (sF2 _ _ (s0 _ _ (c.o t (mem0 t (mem t ht)).1)))
            refine ⟨_, rfl, .inl ⟨rfl, _, SqL.of hDk2⟩, _, rfl, ?_⟩
            dsimp only [tNil]
            refine rem_ord ⟨hDk2, hLA2, hDne⟩ nd hkk ?_
            refine ⟨L1 ++ L2, ds ++ [odata f.d], _, _, _, rfl, ?_, fun t ht => mem t ?_, ?_, upd_same, ⟨upd F p (.tup (orow f.d)), _, s0.trans sF2, F2R, (upd_ne Dp_).trans FD, Same.up s2 ((upd_ne Dp_).trans FD), (upd_ne DR.symm).trans upd_same, dpa_snoc (dpa_mono sF2 aws) (dp_orow upd_same)⟩, by rw [List.length_append, lds]; rfl, ?_⟩
            · rw [List.length_append, List.length_cons] at hlk
              rw [List.length_append]
              omega
            · rcases List.mem_append.mp ht with z | z
              · exact List.mem_append_left _ z
              · exact List.mem_append_right _ (List.mem_cons_of_mem _ z)
            · refine nd.sublist (List.Sublist.map _ ?_)
              exact List.Sublist.append (List.Sublist.refl _) (List.sublist_cons_self _ _)
            · have ndL : ((g :: L).map (·.num)).Nodup := by
                rw [← hs]
                rw [map_num] at nd
                exact nd_srt nd
              have e1 : srt b ((L1 ++ L2).map (·.d)) = L := by
                rw [rmv_at nd, eg]
                unfold rmv
                rw [srt_filter, hs]
                exact rmv_self ndL
              rw [hs] at eds
              rw [e1, ← eds, eg, List.append_assoc]
              rfl
      · rintro σ H' ⟨ks, ds, v3, v5, v6, rfl, hlk, mem, nd, hDk, fx, lds, eds⟩
        rw [List.length_map] at hlk
        have hk0' : ks = [] := List.eq_nil_of_length_eq_zero (by omega)
        subst hk0'
        obtain ⟨F, ws, s0, FR, FD, s1, hws, aws⟩ := fx
        refine ⟨_, rfl, k H' R (s0.trans s1) ?_⟩
        rw [← eds]
        show Dp K H' (.ref R) (.list (ds ++ []))
        rw [List.append_nil]
        exact .lst (SqL.of hws) (dpa_mono s1 aws)
end
end K29
end

section
set_option Elab.async false
set_option maxRecDepth 100000
set_option maxHeartbeats 4000000
set_option linter.unusedVariables false
/-! the law's world in the heap; _law_triggered -/
namespace K29
open PySem L2
structure TP where
  a : Addr
  d : Sd
def TP.ref (t : TP) : V := .ref t.a
structure LW where
  w : Addr
  lo : Addr
  ls : Addr
  os : List TL
  ss : List TP
  last : Option Int
def LW.lw (W : LW) : Lw := ⟨W.os.map (·.d), W.ss.map (·.d), W.last⟩
def wkv (lo ls : Addr) (last : Option Int) : List (Key × V) := [(.inr "orders", .ref lo), (.inr "stops", .ref ls), (.inr "last", pV last)]
theorem wkv_orders (lo ls : Addr) (last : Option Int) : some (V.ref lo) = valV (wkv lo ls last) (Sum.inr ("orders" : Str) : Key) := by kernel_rfl
theorem wkv_stops (lo ls : Addr) (last : Option Int) : some (V.ref ls) = valV (wkv lo ls last) (Sum.inr ("stops" : Str) : Key) := by kernel_rfl
theorem wkv_last (lo ls : Addr) (last : Option Int) : some (pV last) = valV (wkv lo ls last) (Sum.inr ("last" : Str) : Key) := by kernel_rfl
theorem wkv_put (lo ls : Addr) (last l2 : Option Int) : putK (wkv lo ls last) (Sum.inr ("last" : Str) : Key) (pV l2) = wkv lo ls l2 := by kernel_rfl
structure WCells (H : Hp) (W : LW) : Prop where
  w : H W.w = some (.dK (wkv W.lo W.ls W.last))
  o : OCells H W.lo W.os
  ls : H W.ls = some (.lst (W.ss.map TP.ref))
  s : ∀ t ∈ W.ss, H t.a = some (.tup (srow t.d))
  ne : W.lo ≠ W.ls
  nes : ∀ t ∈ W.os, t.a ≠ W.ls
def LW.foot (W : LW) (a : Addr) : Prop := a = W.w ∨ a = W.ls ∨ oft W.lo W.os a ∨ ∃ t ∈ W.ss, a = t.a
structure WAt (F H : Hp) (W : LW) : Prop where
  same : Same F H
  out : ∀ a, W.foot a → F a = none
  c : WCells H W
theorem TP.ref_ix {L : List TP} {i : Nat} {x : V} (h : (L.map TP.ref)[i]? = some x) : ∃ t, L[i]? = some t ∧ x = .ref t.a := by
  rw [List.getElem?_map] at h
  cases e : L[i]? with
  | none =>
    rw [e] at h
    cases h
  | some t =>
    rw [e] at h
    exact ⟨t, rfl, (Option.some.inj h).symm⟩
section
variable {F F' H H' : Hp} {W : LW}
theorem WCells.has (c : WCells H W) {a : Addr} (h : W.foot a) : ∃ o, H a = some o := by
  rcases h with rfl | rfl | h | ⟨t, ht, rfl⟩
  · exact ⟨_, c.w⟩
  · exact ⟨_, c.ls⟩
  · exact c.o.has h
  · exact ⟨_, c.s t ht⟩
theorem WCells.frame (c : WCells H W) (h : ∀ a, W.foot a → H' a = H a) : WCells H' W := ⟨(h _ (.inl rfl)).trans c.w, c.o.frame fun a ha => h a (.inr (.inr (.inl ha))), (h _ (.inr (.inl rfl))).trans c.ls, fun t ht => (h _ (.inr (.inr (.inr ⟨t, ht, rfl⟩)))).trans (c.s t ht), c.ne, c.nes⟩
theorem WCells.up (c : WCells H W) {a : Addr} {o : HO} (h : ¬ W.foot a) : WCells (upd H a o) W := c.frame fun b hb => upd_ne fun e => h (e ▸ hb)
theorem WCells.free (c : WCells H W) {a : Addr} (h : H a = none) : ¬ W.foot a := fun hb => by
  obtain ⟨o, e⟩ := c.has hb
  rw [h] at e
  cases e
theorem WCells.sameH (c : WCells H W) (s : Same H H') : WCells H' W := c.frame fun a ha => by
  obtain ⟨o, e⟩ := c.has ha
  rw [e, s a o e]
theorem WAt.up (b : WAt F H W) {a : Addr} {o : HO} (h : ¬ W.foot a) (hF : F a = none) : WAt F (upd H a o) W := ⟨Same.up b.same hF, b.out, b.c.up h⟩
theorem WAt.new (b : WAt F H W) {a : Addr} {o : HO} (h : H a = none) : WAt F (upd H a o) W := b.up (b.c.free h) (b.same.free h)
theorem WAt.sameH (b : WAt F H W) (s : Same H H') : WAt F H' W := ⟨b.same.trans s, b.out, b.c.sameH s⟩
theorem WAt.foot_of (b : WAt F H W) {a : Addr} {o : HO} (h : F a = some o) : ¬ W.foot a := fun q => by
  rw [b.out a q] at h
  cases h
theorem WAt.frz (b : WAt F H W) {a : Addr} {o : HO} (h : H a = some o) (hf : ¬ W.foot a) : WAt (upd F a o) H W := by
  refine ⟨fun c u e => ?_, fun c hc => ?_, b.c⟩
  · by_cases q : c = a
    · rw [q, upd_same] at e
      rw [q, h]
      exact e
    · rw [upd_ne q] at e
      exact b.same c u e
  · have q : c ≠ a := fun q => hf (by rw [← q]; exact hc)
    rw [upd_ne q]
    exact b.out c hc
theorem WCells.at_ (c : WCells H W) : WAt (hide W.foot H) H W := ⟨hide_same, fun _ h => hide_in h, c⟩
theorem WCells.gO (c : WCells H W) : DGet H W.w (.str "orders") (some (.ref W.lo)) := .inl ⟨_, .inr "orders", .inl c.w, rfl, wkv_orders _ _ _⟩
theorem WCells.gS (c : WCells H W) : DGet H W.w (.str "stops") (some (.ref W.ls)) := .inl ⟨_, .inr "stops", .inl c.w, rfl, wkv_stops _ _ _⟩
theorem WCells.gL (c : WCells H W) : DGet H W.w (.str "last") (some (pV W.last)) := .inl ⟨_, .inr "last", .inl c.w, rfl, wkv_last _ _ _⟩
theorem lst_tup {xs ys : List V} : HO.lst xs ≠ HO.tup ys := fun e => by cases e
theorem tup_dK {xs : List V} {ks : List (Key × V)} : HO.tup xs ≠ HO.dK ks := fun e => by cases e
/-- the last price is written -/
theorem WAt.setLast (b : WAt F H W) (l : Option Int) : WAt F (upd H W.w (.dK (wkv W.lo W.ls l))) { W with last := l } := by
  have c := b.c
  refine ⟨Same.up b.same (b.out _ (.inl rfl)), b.out, upd_same, ⟨(upd_ne (ne_of c.o.l c.w lst_ne_dK)).trans c.o.l, fun t ht => (upd_ne (ne_of (c.o.o t ht) c.w lst_ne_dK)).trans (c.o.o t ht), c.o.ne⟩, (upd_ne (ne_of c.ls c.w lst_ne_dK)).trans c.ls, fun t ht => (upd_ne (ne_of (c.s t ht) c.w tup_dK)).trans (c.s t ht), c.ne, c.nes⟩
/-- a part of the stops stays -/
theorem WAt.partS (b : WAt F H W) {L : List TP} (h : ∀ t ∈ L, t ∈ W.ss) : WAt F (upd H W.ls (.lst (L.map TP.ref))) { W with ss := L } := by
  have c := b.c
  refine ⟨Same.up b.same (b.out _ (.inr (.inl rfl))), fun a ha => ?_, (upd_ne (ne_of c.ls c.w lst_ne_dK).symm).trans c.w, ⟨(upd_ne c.ne).trans c.o.l, fun t ht => (upd_ne (c.nes t ht)).trans (c.o.o t ht), c.o.ne⟩, upd_same, fun t ht => (upd_ne (ne_of c.ls (c.s t (h t ht)) lst_tup).symm).trans (c.s t (h t ht)), c.ne, c.nes⟩
  rcases ha with e | e | e | ⟨t, ht, e⟩
  · exact b.out a (.inl e)
  · exact b.out a (.inr (.inl e))
  · exact b.out a (.inr (.inr (.inl e)))
  · exact b.out a (.inr (.inr (.inr ⟨t, h t ht, e⟩)))
theorem WAt.snocS (b : WAt F H W) {t : TP} (ht : H t.a = some (.tup (srow t.d))) (hF : F t.a = none) : WAt F (upd H W.ls (.lst (W.ss.map TP.ref ++ [t.ref]))) { W with ss := W.ss ++ [t] } := by
  have c := b.c
  have all : ∀ u ∈ W.ss ++ [t], H u.a = some (.tup (srow u.d)) ∧ F u.a = none := fun u hu => by
    rcases List.mem_append.mp hu with hu | hu
    · exact ⟨c.s u hu, b.out _ (.inr (.inr (.inr ⟨u, hu, rfl⟩)))⟩
    · rw [List.mem_singleton.mp hu]
      exact ⟨ht, hF⟩
  refine ⟨Same.up b.same (b.out _ (.inr (.inl rfl))), fun a ha => ?_, (upd_ne (ne_of c.ls c.w lst_ne_dK).symm).trans c.w, ⟨(upd_ne c.ne).trans c.o.l, fun t ht => (upd_ne (c.nes t ht)).trans (c.o.o t ht), c.o.ne⟩, by rw [List.map_append]; exact upd_same, fun u hu => (upd_ne (ne_of c.ls (all u hu).1 lst_tup).symm).trans (all u hu).1, c.ne, c.nes⟩
  rcases ha with e | e | e | ⟨u, hu, e⟩
  · exact b.out a (.inl e)
  · exact b.out a (.inr (.inl e))
  · exact b.out a (.inr (.inr (.inl e)))
  · rw [e]
    exact (all u hu).2
/-- the orders as a part, and the world behind a change of them; X: what the change must leave alone, beyond the world -/
theorem WAt.orders (b : WAt F H W) {F1 H1 : Hp} {os1 : List TL} (X : Addr → Prop) (s1 : Same (hide (oft W.lo W.os) H) F1) (o1 : OrdAt F1 H1 W.lo os1) (hX : ∀ a, X a → F a = none) :
    ∃ F2, Same F F2 ∧ WAt F2 H1 { W with os := os1 } ∧ (∀ a, X a → F2 a = none) ∧ (∀ a o, F1 a = some o → hide (oft W.lo W.os) H a = none → (X a → ∃ u, H a = some u ∧ ¬ oft W.lo W.os a) → F2 a = some o) ∧ ∀ a o, H a = some o → ¬ oft W.lo W.os a → H1 a = some o := by
  have c := b.c
  have keep : ∀ a o, H a = some o → ¬ oft W.lo W.os a → F1 a = some o := fun a o e n => s1 a o (by rw [hide_out n]; exact e)
  have nw : ¬ oft W.lo W.os W.w := by
    rintro (e | ⟨t, ht, e⟩)
    · exact ne_of c.o.l c.w lst_ne_dK e.symm
    · exact ne_of (c.o.o t ht) c.w lst_ne_dK e.symm
  have nl : ¬ oft W.lo W.os W.ls := by
    rintro (e | ⟨t, ht, e⟩)
    · exact c.ne e.symm
    · exact c.nes t ht e.symm
  have nt : ∀ t ∈ W.ss, ¬ oft W.lo W.os t.a := fun t ht => by
    rintro (e | ⟨u, hu, e⟩)
    · exact ne_of c.o.l (c.s t ht) lst_tup e.symm
    · exact ne_of (c.o.o u hu) (c.s t ht) lst_tup e.symm
  have no1 : ∀ a o, F1 a = some o → ¬ oft W.lo os1 a := fun a o e q => by
    rw [o1.out a q] at e
    cases e
  have old1 : ∀ a, ({ W with os := os1 } : LW).foot a → (∃ o, H a = some o ∧ ¬ oft W.lo W.os a ∧ W.foot a) ∨ oft W.lo os1 a := fun a ha => by
    rcases ha with e | e | e | ⟨t, ht, e⟩
    · rw [e]
      exact .inl ⟨_, c.w, nw, .inl rfl⟩
    · rw [e]
      exact .inl ⟨_, c.ls, nl, .inr (.inl rfl)⟩
    · exact .inr e
    · rw [e]
      exact .inl ⟨_, c.s t ht, nt t ht, .inr (.inr (.inr ⟨t, ht, rfl⟩))⟩
  have k1 : ∀ a o, H a = some o → ¬ oft W.lo W.os a → H1 a = some o := fun a o e n => o1.same _ _ (keep a o e n)
  refine ⟨hide (fun a => ({ W with os := os1 } : LW).foot a ∨ X a) F1, fun a o e => ?_, ⟨hide_same.trans o1.same, fun a ha => hide_in (.inl ha), ?_⟩, fun a ha => hide_in (.inr ha), fun a o e n hx => ?_, k1⟩
  · have nf : ¬ W.foot a := fun q => by
      rw [b.out a q] at e
      cases e
    have h1 := keep a o (b.same a o e) (fun q => nf (.inr (.inr (.inl q))))
    rw [hide_out]
    · exact h1
    · rintro (q | q)
      · rcases old1 a q with ⟨_, _, _, z⟩ | z
        · exact nf z
        · exact no1 a o h1 z
      · rw [hX a q] at e
        cases e
  · refine ⟨k1 _ _ c.w nw, o1.c, k1 _ _ c.ls nl, fun t ht => k1 _ _ (c.s t ht) (nt t ht), c.ne, fun t ht e => ?_⟩
    exact no1 _ _ (keep _ _ c.ls nl) (.inr ⟨t, ht, e.symm⟩)
  · rw [hide_out]
    · exact e
    · rintro (q | q)
      · rcases old1 a q with ⟨u, hu, z, _⟩ | z
        · rw [hide_out z, hu] at n
          cases n
        · exact no1 a o e z
      · obtain ⟨u, hu, z⟩ := hx q
        rw [hide_out z, hu] at n
        cases n
end
theorem map_numS (ss : List TP) : ss.map (·.d.num) = (ss.map (·.d)).map (·.num) := by rw [List.map_map]; rfl
theorem nd_splitS {L1 L2 : List TP} {t : TP} (nd : ((L1 ++ t :: L2).map (·.d.num)).Pairwise (· < ·)) : ∀ u, u ∈ L1 ∨ u ∈ L2 → u.d.num ≠ t.d.num := fun u hu e => by
  rw [List.map_append, List.map_cons, List.pairwise_append, List.pairwise_cons] at nd
  rcases hu with hu | hu
  · have := nd.2.2 _ (List.mem_map.mpr ⟨u, hu, rfl⟩) _ List.mem_cons_self
    omega
  · have := nd.2.1.1 _ (List.mem_map.mpr ⟨u, hu, rfl⟩)
    omega
theorem rmvS_at {L1 L2 : List TP} {t : TP} (nd : ((L1 ++ t :: L2).map (·.d.num)).Pairwise (· < ·)) : (L1 ++ L2).map (·.d) = rmvS t.d.num ((L1 ++ t :: L2).map (·.d)) := by
  have h := nd_splitS nd
  have g : ∀ L : List TP, (∀ u ∈ L, u.d.num ≠ t.d.num) → rmvS t.d.num (L.map (·.d)) = L.map (·.d) := fun L hL => by
    unfold rmvS
    rw [List.filter_eq_self]
    intro x hx
    obtain ⟨u, hu, rfl⟩ := List.mem_map.mp hx
    rw [decide_eq_false (hL u hu)]
    rfl
  have e : rmvS t.d.num ((L1 ++ t :: L2).map (·.d)) = rmvS t.d.num (L1.map (·.d)) ++ rmvS t.d.num (L2.map (·.d)) := by
    unfold rmvS
    rw [List.map_append, List.map_cons, List.filter_append, List.filter_cons, if_neg (by simp)]
  rw [e, g L1 fun u hu => h u (.inl hu), g L2 fun u hu => h u (.inr hu), List.map_append]
theorem rem_stop {K : PySem.W.Frag} {H : Hp} {ls : Addr} {L1 L2 : List TP} {t : TP} {Q : VK} (hl : H ls = some (.lst ((L1 ++ t :: L2).map TP.ref))) (hs : ∀ u ∈ L1 ++ t :: L2, H u.a = some (.tup (srow u.d))) (nd : ((L1 ++ t :: L2).map (·.d.num)).Pairwise (· < ·)) (hk : ∀ u ∈ L1 ++ t :: L2, hOk u.d.house) (k : Q .non (upd H ls (.lst ((L1 ++ L2).map TP.ref)))) : rRemD K (.ref ls) [.ref t.a] H Q := by
  have ht : t ∈ L1 ++ t :: L2 := List.mem_append_right _ List.mem_cons_self
  refine ⟨ls, _, _, sdata t.d, (L1 ++ t :: L2).map fun u => sdata u.d, L1.length, sdata t.d, rfl, rfl, hl, .lst (SqL.of hl) (dpa_map fun u hu => dp_srow (s := u.d) (p := u.a) (hs u hu)), dp_srow (s := t.d) (p := t.a) (hs t ht), ?_, (lay_sdata (hk t ht)).shaped (by decide), ?_, ?_, ?_, ?_⟩
  · refine (Lay.list (n := 1) fun d hd => ?_).shaped (by decide)
    obtain ⟨u, hu, rfl⟩ := List.mem_map.mp hd
    exact lay_sdata (hk u hu)
  · rw [List.map_append, List.map_cons, List.getElem?_append_right (by simp)]
    simp
  · exact SeqAt.eqv_refl _ (lay_sdata (hk t ht)).can
  · intro m z hm hz
    rw [List.map_append, List.getElem?_append_left (by simpa using hm), List.getElem?_map] at hz
    cases e : L1[m]? with
    | none =>
      rw [e] at hz
      cases hz
    | some u =>
      rw [e] at hz
      cases hz
      exact sdata_ne (nd_splitS nd u (.inl (List.mem_of_getElem? e)))
  · have e : ((L1 ++ t :: L2).map TP.ref).eraseIdx L1.length = (L1 ++ L2).map TP.ref := by
      rw [List.map_append, List.map_cons, List.eraseIdx_append_of_length_le (by simp)]
      simp
    rw [e]
    exact k
/-- the houses are texts -/
structure HOk (w : Lw) : Prop where
  o : ∀ o ∈ w.os, hOk o.house
  s : ∀ s ∈ w.stops, hOk s.house
theorem LEnterR.hk {rest : Bool} {os os' : List Od} {o : Od} {r : Rp} (x : LEnterR rest os o os' r) (h : ∀ o ∈ os, hOk o.house) (ho : hOk o.house) : (∀ o ∈ os', hOk o.house) ∧ hOk r.house ∧ (∀ f ∈ r.fills, hOk f.house) ∧ r.num = o.num ∧ r.house = o.house ∧ r.buy = o.buy := by
  obtain ⟨t, run, rfl, rfl⟩ := x
  obtain ⟨h1, h2⟩ := run.hk h (fun f hf => nomatch hf)
  refine ⟨fun x hx => ?_, ho, h2, rfl, rfl, rfl⟩
  unfold lrest at hx
  split at hx
  · rcases List.mem_append.mp hx with q | q
    · exact h1 x q
    · rw [List.mem_singleton.mp q]
      exact ho
  · exact h1 x hx
theorem LTrigR.hk {w w' : Lw} {rs : List Rp} (x : LTrigR w w' rs) : HOk w → HOk w' ∧ ∀ r ∈ rs, hOk r.house ∧ ∀ f ∈ r.fills, hOk f.house := by
  induction x with
  | done _ => exact fun h => ⟨h, fun r hr => nomatch hr⟩
  | @step w w2 os1 s r rs h1 h2 _ ih =>
    intro h
    have hs := firstR_mem h1
    obtain ⟨q1, q2, q3, _⟩ := h2.hk h.o (h.s s hs)
    obtain ⟨q4, q5⟩ := ih ⟨q1, fun z hz => h.s z (rmvS_num hz).1⟩
    refine ⟨q4, fun r' hr => ?_⟩
    rcases List.mem_cons.mp hr with e | hr
    · rw [e]
      exact ⟨q2, q3⟩
    · exact q5 r' hr
end K29
end

section
set_option Elab.async false
set_option maxRecDepth 100000
set_option maxHeartbeats 4000000
set_option linter.unusedVariables false
/-! the law: _law_triggered -/
namespace K29
open PySem L2
section
variable {P : Program} {w : World} {K : PySem.W.Frag} {mg : Str → Option Value} {base : Heap} {A : Ad}
structure TrS (K : PySem.W.Frag) (F0 : Hp) (W0 : LW) (R : Addr) (i : Nat) (F H : Hp) (W : LW) (rs : List Rp) (vs : List V) : Prop where
  same : Same F0 F
  wat : WAt F H W
  hR : H R = some (.lst vs)
  FR : F R = none
  nR : ¬ W.foot R
  dp : DpAll K F vs (rs.map rdata)
  inv : WInv 800 W.lw
  hk : HOk W.lw
  run : ∀ w2 rs2, LTrigR W.lw w2 rs2 → LTrigR W0.lw w2 (rs ++ rs2)
  len : W.ss.length + i ≤ 39
  cnt : rs.length = i
  w : W.w = W0.w
def spLTrig (K : PySem.W.Frag) : Sp := fun vs H Q _ => ∃ (F : Hp) (W : LW), vs = [.ref W.w] ∧ WAt F H W ∧ WInv 800 W.lw ∧ HOk W.lw ∧ W.ss.length ≤ 39 ∧
  ∀ F' H' W' p vs' rs, Same F F' → WAt F' H' W' → LTrigR W.lw W'.lw rs → F' p = some (.lst vs') → DpAll K F' vs' (rs.map rdata) → F p = none → vs'.length ≤ 1000 → W'.w = W.w → Q (.ref p) H'
theorem ok_law_triggered (T : Txt K mg A) : FnOk P w K mg base CX0 5 A.f_law_triggered A.d_law_triggered ["_law_world"] (spLTrig K) := by
  refine T.F_law_triggered.ok sc_law_triggered (fun vs H Q E h => ?_) (fun cdv Ar outer s H vs Q E hr h => ?_)
  · obtain ⟨_, _, rfl, _⟩ := h
    rfl
  · obtain ⟨F0, W0, rfl, wat0, inv0, hk0, hlen0, k⟩ := h
    refine ⟨_, (pss_cons (ps_set (i := 1) sc_law_triggered.nd rfl (Or.inl rfl) (pe_lst pa_nil))
      (pss_cons (ps_for PassesOwn.never rfl (pi_range1 (by rfl) T.z_range (pa_cons pe_int pa_nil)) (pg_name (i := 2) sc_law_triggered.nd rfl (Or.inl rfl)) (pss_cons (ps_setLc (i := 3) (own := [("_law_stop", 4)]) (g := gName 4) (tt := tB (tCall spReached [] E0 (tCons (tVar 4) (tCons (tDGet (tVar 0) (tC (.str "last"))) tNil)))) (te := tVar 4) rfl sc_law_triggered.nd rfl rfl (sw_true rfl rfl rfl (by decide +kernel)) (pi_list (pe_dget (hu_of hr) (pv 0) pe_str (fun _ _ => rfl))) (blkOk_by (N := ["_law_world", "_law_rows", "_law_step", "_law_ready", "_law_stop", "_law_other", "_law_kind", "_law_due"]) (sc := defScope s_law_triggered) (by decide +kernel)) (fun _ _ _ _ _ => pg_name (i := 4) sc_law_triggered.nd rfl (Or.inl rfl)) (fun _ _ _ _ _ => pts_one (pt_val (pe_call (ok_law_reached T) (hr.mono (by decide)) (by rfl) T.g_law_reached T.F_law_reached.kp T.b_law_reached .nil pass0 (pa_cons (pv 4) (pa_cons (pe_dget (hu_of hr) (pv 0) pe_str (fun _ _ => rfl)) pa_nil))))) (fun _ _ _ _ _ => pv 4))
      (pss_cons (ps_if (pt_not (pt_truth (pv 3) (by intro _; rfl))) (pss_one (ps_ret (pv 1))) pss_nil)
      (pss_cons (ps_set (i := 4) sc_law_triggered.nd rfl (Or.inl rfl) (pe_ix ix_list (pv 3) pe_int (fun _ _ => rfl)))
      (pss_cons (ps_for PassesOwn.never rfl (pi_list (pv 3)) (pg_name (i := 5) sc_law_triggered.nd rfl (Or.inl rfl)) (pss_one (ps_if (pt_cmpR op_lt (pe_ix ix_tup (pv 5) pe_int (fun _ _ => rfl)) (pe_ix ix_tup (pv 4) pe_int (fun _ _ => rfl)) (nomark _)) (pss_one (ps_set (i := 4) sc_law_triggered.nd rfl (Or.inl rfl) (pv 5))) pss_nil)))
      (pss_cons (ps_expr (pe_bm PySem.F.plainAttrs_list PySem.F.slot_list_remove PySem.F.type_list_remove (mt_removeD (room65 hr)) (pe_dget (hu_of hr) (pv 0) pe_str (fun _ _ => rfl)) (pa_cons (pv 4) pa_nil)))
      (pss_cons (ps_set (i := 6) sc_law_triggered.nd rfl (Or.inl rfl) pe_str)
      (Evl.pss_cut (ps_if (pt_cmpR op_isN (pe_ix ix_tup (pv 4) pe_int (fun _ _ => rfl)) pe_non (nomark _)) (pss_one (ps_set (i := 6) sc_law_triggered.nd rfl (Or.inl rfl) pe_str)) pss_nil)
      (pss_cons (ps_set (i := 7) sc_law_triggered.nd rfl (Or.inl rfl) (pe_call (ok_law_enter T) (hr.mono (by decide)) (by rfl) T.g_law_enter T.F_law_enter.kp T.b_law_enter .nil pass0 (pa_cons (pe_dget (hu_of hr) (pv 0) pe_str (fun _ _ => rfl)) (pa_cons (pe_ix ix_tup (pv 4) pe_int (fun _ _ => rfl)) (pa_cons (pe_ix ix_tup (pv 4) pe_int (fun _ _ => rfl)) (pa_cons (pe_ix ix_tup (pv 4) pe_int (fun _ _ => rfl)) (pa_cons (pe_ix ix_tup (pv 4) pe_int (fun _ _ => rfl)) (pa_cons (pe_ix ix_tup (pv 4) pe_int (fun _ _ => rfl)) (pa_cons (pv 6) (pa_cons pe_int pa_nil))))))))))
      (pss_cons (ps_dput (hu_of hr) (pv 0) pe_str (pe_call (ok_law_last T) (hr.mono (by decide)) (by rfl) T.g_law_last T.F_law_last.kp T.b_law_last .nil pass0 (pa_cons (pe_dget (hu_of hr) (pv 0) pe_str (fun _ _ => rfl)) (pa_cons (pv 7) pa_nil))) rfl)
      (pss_one (ps_expr (pe_bm PySem.F.plainAttrs_list PySem.F.slot_list_append PySem.F.type_list_append mt_append (pv 1) (pa_cons (pe_op op_catT (pe_tup (pa_cons (pe_ix ix_tup (pv 4) pe_int (fun _ _ => rfl)) (pa_cons (pe_ix ix_tup (pv 4) pe_int (fun _ _ => rfl)) (pa_cons (pe_ix ix_tup (pv 4) pe_int (fun _ _ => rfl)) pa_nil)))) (pv 7)) pa_nil))))))))))))))
      (pss_one (ps_ret (pv 1))))), ?_⟩
    refine ⟨Nat.zero_le _, fun R hR => ?_⟩
    refine ⟨40, rfl, by decide, by decide, for_range (lo := 0) (n := 40)
      (fun i σ H' => ∃ F W rs vs v2 v3 v4 v5 v6 v7, σ = [some (.ref W.w), some (.ref R), v2, v3, v4, v5, v6, v7] ∧ TrS K F0 W0 R i F H' W rs vs)
      ⟨F0, W0, [], [], none, none, none, none, none, none, rfl, Same.refl _, wat0.new hR, upd_same, wat0.same.free hR, wat0.c.free hR, .nil, inv0, hk0, fun _ _ z => z, hlen0, rfl, rfl⟩ ?_ ?_⟩
    · rintro i σ H1 hi ⟨F, W, rs, vs, v2, v3, v4, v5, v6, v7, rfl, S⟩
      have c := S.wat.c
      refine ⟨_, rfl, W.w, _, rfl, c.gS, W.ls, rfl, ⟨_, SqL.of c.ls⟩, fun D hD => ?_⟩
      have cD : ∀ o, WCells (upd H1 D o) W := fun o => c.sameH (Same.newH hD)
      refine lc_list (K := K) (a := W.ls) (xs := W.ss.map TP.ref) (fun j H' => H' = upd H1 D (.lst (((W.ss.take j).filter fun u => reached W.last u.d).map TP.ref))) rfl (fun j H' _ e => by rw [e]; exact SqL.of (cD _).ls) ?_ ?_
      · rintro j x H' hj rfl
        obtain ⟨u, hu, rfl⟩ := TP.ref_ix hj
        have cE := cD (.lst (((W.ss.take j).filter fun u => reached W.last u.d).map TP.ref))
        have hou := cE.s u (List.mem_of_getElem? hu)
        refine ⟨rfl, ?_⟩
        refine ⟨_, rfl, _, rfl, W.w, _, rfl, cE.gL, u.a, u.d, W.last, rfl, hou, _, rfl, ?_⟩
        rw [take_snoc hu, List.filter_append, List.filter_cons]
        cases hq : reached W.last u.d with
        | true =>
          refine iteT ?_
          refine ⟨_, rfl, _, upd_same, ?_, ?_⟩
          · rw [List.length_map]
            have := S.len
            exact Nat.lt_of_le_of_lt (Nat.le_trans (List.length_filter_le _ _) (by rw [List.length_take]; exact Nat.le_trans (Nat.min_le_right _ _) (show W.ss.length ≤ 1000 by omega))) (show 1000 < sizeLine by decide)
          · rw [upd_upd, if_pos rfl, List.filter_nil, List.map_append]
            rfl
        | false =>
          refine iteF ?_
          rw [if_neg (by decide), List.filter_nil, List.append_nil]
      · rintro H2 rfl
        rw [List.length_map, List.take_length]
        have wD := S.wat.new (o := .lst ((W.ss.filter fun u => reached W.last u.d).map TP.ref)) hD
        have RD : R ≠ D := ne_of_none S.hR hD
        have hR2 : upd H1 D (.lst ((W.ss.filter fun u => reached W.last u.d).map TP.ref)) R = some (.lst vs) := (upd_ne RD).trans S.hR
        have hD2 : upd H1 D (.lst ((W.ss.filter fun u => reached W.last u.d).map TP.ref)) D = some (.lst ((W.ss.filter fun u => reached W.last u.d).map TP.ref)) := upd_same
        generalize upd H1 D (.lst ((W.ss.filter fun u => reached W.last u.d).map TP.ref)) = H2 at wD hR2 hD2
        have c2 := wD.c
        have efirst : firstR W.lw.last W.lw.stops = ((W.ss.filter fun u => reached W.last u.d).head?).map (·.d) := by
          show (W.ss.map (·.d)).find? (reached W.last) = _
          rw [List.find?_map, ← List.head?_filter]
          rfl
        refine ⟨_, rfl, _, .inl ⟨_, SqL.of hD2, rfl⟩, ?_⟩
        cases hrd : W.ss.filter fun u => reached W.last u.d with
        | nil =>
          rw [hrd] at efirst
          refine iteTe rfl ?_
          have hr2 := S.run _ _ (.done efirst)
          rw [List.append_nil] at hr2
          refine ⟨_, rfl, k (upd F R (.lst vs)) H2 W R vs rs (S.same.trans (Same.newH S.FR)) (wD.frz hR2 S.nR) hr2 upd_same (dpa_mono (Same.newH S.FR) S.dp) (S.same.free S.FR) ?_ S.w⟩
          have h1 := dpa_len S.dp
          rw [List.length_map, S.cnt] at h1
          omega
        | cons s rest =>
          rw [hrd] at efirst hD2
          have hsm : s ∈ W.ss := by
            have : s ∈ W.ss.filter fun u => reached W.last u.d := by rw [hrd]; exact List.mem_cons_self
            exact (List.mem_filter.mp this).1
          have hpw : ((s :: rest).map (·.d.num)).Pairwise (· < ·) := by
            rw [← hrd]
            have := S.inv.sp
            have e : W.lw.stops.map (·.num) = W.ss.map (·.d.num) := (map_numS W.ss).symm
            rw [e] at this
            exact this.sublist (List.filter_sublist.map _)
          refine iteFe rfl ?_
          refine ⟨_, rfl, _, _, _, _, rfl, rfl, SqL.of hD2, at_of (j := 0) rfl rfl, ?_⟩
          refine ⟨_, rfl, D, rfl, ⟨_, SqL.of hD2⟩, for_list (K := K) (a := D) (xs := (s :: rest).map TP.ref)
            (fun j σ H' => ∃ v2' v5', σ = [some (.ref W.w), some (.ref R), v2', some (.ref D), some (.ref s.a), v5', v6, v7] ∧ H' = H2) ⟨_, _, rfl, rfl⟩ (fun j σ H' _ ⟨_, _, _, e⟩ => by rw [e]; exact SqL.of hD2) ?_ ?_⟩
          · rintro j x σ H' hj ⟨v2', v5', rfl, rfl⟩
            obtain ⟨u, hu, rfl⟩ := TP.ref_ix hj
            have hum := List.mem_of_getElem? hu
            have hum2 : u ∈ W.ss := by
              rw [← hrd] at hum
              exact (List.mem_filter.mp hum).1
            refine ⟨_, rfl, _, _, _, _, rfl, rfl, SqT.of (c2.s u hum2), at_of (j := 0) rfl rfl, _, rfl, _, _, _, _, rfl, rfl, SqT.of (c2.s s hsm), at_of (j := 0) rfl rfl, _, _, rfl, rfl, _, rfl, ?_⟩
            show if decide (u.d.num < s.d.num) = true then _ else _
            have hle : ¬ u.d.num < s.d.num := by
              rw [List.map_cons, List.pairwise_cons] at hpw
              rcases List.mem_cons.mp hum with e | hm
              · rw [e]
                omega
              · have := hpw.1 _ (List.mem_map.mpr ⟨u, hm, rfl⟩)
                omega
            refine iteFe (decide_eq_false hle) ?_
            exact ⟨_, _, rfl, rfl⟩
          · rintro σ H2 ⟨v2', v5', rfl, rfl⟩
            have spw : (W.ss.map (·.d.num)).Pairwise (· < ·) := by
              rw [map_numS]
              exact S.inv.sp
            have hks : ∀ u ∈ W.ss, hOk u.d.house := fun u hu => S.hk.s u.d (List.mem_map.mpr ⟨u, hu, rfl⟩)
            have hkl : ∀ t ∈ W.os, hOk t.d.house := fun u hu => S.hk.o u.d (List.mem_map.mpr ⟨u, hu, rfl⟩)
            obtain ⟨L1, L2, eS⟩ := List.append_of_mem hsm
            have mem3 : ∀ t ∈ L1 ++ L2, t ∈ W.ss := fun t ht => by
              rw [eS]
              rcases List.mem_append.mp ht with z | z
              · exact List.mem_append_left _ z
              · exact List.mem_append_right _ (List.mem_cons_of_mem _ z)
            have w3 := wD.partS mem3
            have lss := S.len
            have esp : (L1 ++ L2).map (·.d) = rmvS s.d.num (W.ss.map (·.d)) := by
              rw [eS] at spw ⊢
              exact rmvS_at spw
            refine ⟨_, rfl, W.w, _, rfl, c2.gS, .inl ⟨rfl, _, SqL.of c2.ls⟩, _, rfl, ?_⟩
            dsimp only [tNil]
            refine rem_stop (L1 := L1) (L2 := L2) (t := s) (by rw [← eS]; exact c2.ls) (by rw [← eS]; exact c2.s) (by rw [← eS]; exact spw) (by rw [← eS]; exact hks) ?_
            have hs3 : upd H2 W.ls (.lst ((L1 ++ L2).map TP.ref)) s.a = some (.tup (srow s.d)) := (upd_ne (ne_of c2.ls (c2.s s hsm) lst_tup).symm).trans (c2.s s hsm)
            have Rls : R ≠ W.ls := fun e => S.nR (.inr (.inl e))
            have hR3 : upd H2 W.ls (.lst ((L1 ++ L2).map TP.ref)) R = some (.lst vs) := (upd_ne Rls).trans hR2
            generalize upd H2 W.ls (.lst ((L1 ++ L2).map TP.ref)) = H3 at w3 hs3 hR3
            have c3 := w3.c
            refine ⟨fun σ' H'' => σ' = [some (.ref W.w), some (.ref R), v2', some (.ref D), some (.ref s.a), v5', some (.str (kd s.d.price.isSome)), v7] ∧ H'' = H3, ⟨_, rfl, _, _, _, _, rfl, rfl, SqT.of hs3, at_of (j := 4) rfl rfl, rfl, _, rfl, ?_⟩, ?_⟩
            · rw [pV_non]
              cases hp : s.d.price with
              | none =>
                refine iteTe rfl ?_
                exact ⟨rfl, rfl⟩
              | some v =>
                refine iteFe rfl ?_
                exact ⟨rfl, rfl⟩
            · rintro _ H3 ⟨rfl, rfl⟩
              have hq := S.inv.qty s.d (List.mem_map.mpr ⟨s, hsm, rfl⟩)
              have hln := S.inv.len
              have hlo : W.lw.os.length = W.os.length := List.length_map ..
              refine ⟨_, rfl, W.w, _, rfl, c3.gO, _, rfl, _, _, _, _, rfl, rfl, SqT.of hs3, at_of (j := 0) rfl rfl, _, rfl, _, _, _, _, rfl, rfl, SqT.of hs3, at_of (j := 1) rfl rfl, _, rfl, _, _, _, _, rfl, rfl, SqT.of hs3, at_of (j := 2) rfl rfl, _, rfl, _, _, _, _, rfl, rfl, SqT.of hs3, at_of (j := 4) rfl rfl, _, rfl, _, _, _, _, rfl, rfl, SqT.of hs3, at_of (j := 5) rfl rfl, _, rfl,
                _, W.lo, W.os, odOf s.d, s.d.price.isSome, rfl, c3.o.at_, S.inv.os, hkl, ?_, ?_, by omega, fun F1 H4 os1 p rp s1 o1 en due => ?_⟩
              · show 0 ≤ s.d.qty
                omega
              · show s.d.qty ≤ 1000
                omega
              have nR3 : ¬ oft W.lo W.os R := fun q => S.nR (.inr (.inr (.inl q)))
              obtain ⟨F2, sF2, w4, F2R, kdue, k1⟩ := w3.orders (fun a => a = R) s1 o1 (fun a e => by rw [e]; exact S.FR)
              have F2R := F2R R rfl
              have due2 : DueAt F2 p rp.fills rp.rem rp.rest := due.to fun a o e n => kdue a o e n fun ea => ⟨.lst vs, by rw [ea]; exact hR3, by rw [ea]; exact nR3⟩
              have hR4 : H4 R = some (.lst vs) := k1 _ _ hR3 nR3
              have ns3 : ¬ oft W.lo W.os s.a := by
                rintro (e | ⟨u, hu, e⟩)
                · exact ne_of c3.o.l hs3 lst_tup e.symm
                · exact ne_of (c3.o.o u hu) hs3 lst_tup e.symm
              have hs4 : H4 s.a = some (.tup (srow s.d)) := k1 _ _ hs3 ns3
              have c4 := w4.c
              refine ⟨_, rfl, W.w, _, rfl, c4.gL, _, rfl, W.last, p, rp.fills, rp.rem, rp.rest, rfl, due2.mono w4.same, ?_⟩
              refine ⟨_, rfl, W.w, _, rfl, .inl ⟨_, .inr "last", c4.w, rfl, (by show 3 < sizeLine; decide), rfl⟩, ?_⟩
              have w5 := w4.setLast (lastOf W.last rp.fills)
              rw [show putK (wkv W.lo W.ls W.last) (Sum.inr ("last" : Str) : Key) (pV (lastOf W.last rp.fills)) = wkv W.lo W.ls (lastOf W.last rp.fills) from wkv_put _ _ _ _]
              have Rw : R ≠ W.w := fun e => S.nR (.inl e)
              have hR5 : upd H4 W.w (.dK (wkv W.lo W.ls (lastOf W.last rp.fills))) R = some (.lst vs) := (upd_ne Rw).trans hR4
              have hs5 : upd H4 W.w (.dK (wkv W.lo W.ls (lastOf W.last rp.fills))) s.a = some (.tup (srow s.d)) := (upd_ne (ne_of hs4 c4.w tup_dK)).trans hs4
              generalize upd H4 W.w (.dK (wkv W.lo W.ls (lastOf W.last rp.fills))) = H5 at w5 hR5 hs5
              obtain ⟨fl, rm, fs, d1, d2, d3, d4, d5⟩ := due2
              refine ⟨_, rfl, .inl ⟨rfl, _, SqL.of hR5⟩, _, rfl, _, _, _, _, rfl, rfl, SqT.of hs5, at_of (j := 0) rfl rfl, _, rfl, _, _, _, _, rfl, rfl, SqT.of hs5, at_of (j := 1) rfl rfl, _, rfl, _, _, _, _, rfl, rfl, SqT.of hs5, at_of (j := 2) rfl rfl, (by show 3 ≤ sizeLine; decide), fun q hq => ?_⟩
              have hp5 := w5.same _ _ d1
              refine ⟨_, rfl, _, _, _, _, rfl, rfl, SqT.of upd_same, SqT.of (Same.newH hq _ _ hp5), List.cons_ne_nil _ _, (by show 6 ≤ sizeLine; decide), (fun e => nomatch e), fun _ q2 hq2 => ?_⟩
              have w6 := w5.new (o := .tup [.int s.d.num, .str s.d.house, .str (sd s.d.buy)]) hq
              have Rq : R ≠ q := ne_of_none hR5 hq
              have hR6 : upd H5 q (.tup [.int s.d.num, .str s.d.house, .str (sd s.d.buy)]) R = some (.lst vs) := (upd_ne Rq).trans hR5
              have Rq2 : R ≠ q2 := ne_of_none hR6 hq2
              have lvs := dpa_len S.dp
              rw [List.length_map, S.cnt] at lvs
              refine ⟨R, _, _, rfl, rfl, (upd_ne Rq2).trans hR6, Nat.lt_of_le_of_lt (show vs.length ≤ 1000 by omega) (by decide), ?_⟩
              have w7 := (w6.new (o := .tup ([.int s.d.num, .str s.d.house, .str (sd s.d.buy)] ++ [.ref fl, .ref rm, .int rp.rest])) hq2).frz (a := q2) upd_same (w6.c.free hq2)
              have sF3 : Same F2 (upd F2 q2 (.tup ([.int s.d.num, .str s.d.house, .str (sd s.d.buy)] ++ [.ref fl, .ref rm, .int rp.rest]))) := Same.newH (w6.same.free hq2)
              have F3R : upd F2 q2 (.tup ([.int s.d.num, .str s.d.house, .str (sd s.d.buy)] ++ [.ref fl, .ref rm, .int rp.rest])) R = none := (upd_ne Rq2).trans F2R
              have nR5 : ¬ ({ W with ss := L1 ++ L2, os := os1, last := lastOf W.last rp.fills } : LW).foot R := by
                rintro (e | e | e | ⟨t, ht, e⟩)
                · exact Rw e
                · exact Rls e
                · have := o1.out R e
                  rw [s1 R _ (by rw [hide_out nR3]; exact hR3)] at this
                  cases this
                · exact S.nR (.inr (.inr (.inr ⟨t, mem3 t ht, e⟩)))
              obtain ⟨g1, g2, g3, g4, g5, g6⟩ := en.hk S.hk.o (S.hk.s s.d (List.mem_map.mpr ⟨s, hsm, rfl⟩))
              have dprow : Dp K (upd F2 q2 (.tup ([.int s.d.num, .str s.d.house, .str (sd s.d.buy)] ++ [.ref fl, .ref rm, .int rp.rest]))) (.ref q2) (rdata rp) := by
                unfold rdata
                rw [g4, g5, g6]
                exact .tup (SqT.of upd_same) (.cons (.int _) (.cons (.str _) (.cons (.str _) (.cons (dp_fills (sF3 _ _ d2) (fun x hx => sF3 _ _ (d4 x hx)) d5) (.cons (dp_rem (sF3 _ _ d3)) (.cons (.int _) .nil))))))
              have hfst : firstR W.lw.last W.lw.stops = some s.d := efirst
              have elw : ({ W with ss := L1 ++ L2, os := os1, last := lastOf W.last rp.fills } : LW).lw = ⟨os1.map (·.d), rmvS s.d.num W.lw.stops, lastOf W.lw.last rp.fills⟩ := by
                show (⟨os1.map (·.d), (L1 ++ L2).map (·.d), lastOf W.last rp.fills⟩ : Lw) = _
                rw [esp]
                rfl
              have q7 : EnterOut (odOf s.d) W.lw.os (os1.map (·.d)) := by
                obtain ⟨t, run, e1, e2⟩ := en
                have lr := run.rel S.inv.os (by show 0 ≤ s.d.qty; omega)
                obtain ⟨_, _, z3, z4, z5⟩ := lrest_rel (rest := s.d.price.isSome) lr (Int.le_refl _) odOf_price (fun x hx => S.inv.dj s.d (List.mem_map.mpr ⟨s, hsm, rfl⟩) x hx)
                rw [e1]
                exact ⟨z3, z4, z5⟩
              refine ⟨_, { W with ss := L1 ++ L2, os := os1, last := lastOf W.last rp.fills }, rs ++ [rp], vs ++ [.ref q2], _, _, _, _, _, _, rfl, S.same.trans (sF2.trans sF3), w7.up nR5 F3R, upd_same, F3R, nR5, ?_, ?_, ?_, fun w2 rs2 z => ?_, ?_, ?_, S.w⟩
              · rw [List.map_append]
                exact dpa_snoc (dpa_mono (sF2.trans sF3) S.dp) dprow
              · rw [elw]
                exact trig_step S.inv hfst q7
              · rw [elw]
                exact ⟨g1, fun z hz => S.hk.s z (rmvS_num hz).1⟩
              · rw [List.append_assoc]
                rw [elw] at z
                exact S.run w2 (rp :: rs2) (.step hfst en z)
              · show (L1 ++ L2).length + (i + 1) ≤ 39
                have h1 := S.len
                rw [eS, List.length_append, List.length_cons] at h1
                rw [List.length_append]
                omega
              · rw [List.length_append, S.cnt]
                rfl
    · rintro σ H' ⟨F, W, rs, vs, v2, v3, v4, v5, v6, v7, rfl, S⟩
      have := S.len
      omega
end
end K29
end

section
set_option Elab.async false
set_option maxRecDepth 100000
set_option maxHeartbeats 4000000
set_option linter.unusedVariables false
/-! book and world side by side; the end of a command -/
namespace K29
open PySem L2
structure Both (A : Ad) (F H : Hp) (B : TB) (W : LW) : Prop where
  same : Same F H
  b : BCells A H B
  w : WCells H W
  ob : ∀ a, B.foot a → F a = none
  ow : ∀ a, W.foot a → F a = none
  dj : ∀ a, B.foot a → ¬ W.foot a
section
variable {A : Ad} {F F' H H' : Hp} {B B' : TB} {W W' : LW}
theorem Both.new (x : Both A F H B W) {a : Addr} {o : HO} (h : H a = none) : Both A F (upd H a o) B W :=
  ⟨Same.up x.same (x.same.free h), x.b.up (x.b.free h), x.w.up (x.w.free h), x.ob, x.ow, x.dj⟩
theorem Both.sameH (x : Both A F H B W) (s : Same H H') : Both A F H' B W := ⟨x.same.trans s, x.b.sameH s, x.w.sameH s, x.ob, x.ow, x.dj⟩
theorem Both.frz (x : Both A F H B W) {a : Addr} {o : HO} (h : H a = some o) (hb : ¬ B.foot a) (hw : ¬ W.foot a) : Both A (upd F a o) H B W := by
  refine ⟨fun c u e => ?_, x.b, x.w, fun c hc => ?_, fun c hc => ?_, x.dj⟩
  · by_cases q : c = a
    · rw [q, upd_same] at e
      rw [q, h]
      exact e
    · rw [upd_ne q] at e
      exact x.same c u e
  · rw [upd_ne (fun q : c = a => hb (by rw [← q]; exact hc))]
    exact x.ob c hc
  · rw [upd_ne (fun q : c = a => hw (by rw [← q]; exact hc))]
    exact x.ow c hc
theorem Both.newF (x : Both A F H B W) {a : Addr} {o : HO} (h : H a = none) : Both A (upd F a o) (upd H a o) B W := (x.new h).frz upd_same (x.b.free h) (x.w.free h)
/-- what the frozen part holds is in no foot -/
theorem Both.out (x : Both A F H B W) {a : Addr} {o : HO} (h : F a = some o) : ¬ B.foot a ∧ ¬ W.foot a := ⟨fun q => (by rw [x.ob a q] at h; cases h), fun q => (by rw [x.ow a q] at h; cases h)⟩
/-- behind a call that changes the book -/
theorem Both.book (x : Both A F H B W) (s : Same (hide B.foot H) F') (b : BookAt A F' H' B') : ∃ F2, Same F F2 ∧ Both A F2 H' B' W ∧ ∀ a o, F' a = some o → hide B.foot H a = none → F2 a = some o := by
  have keep : ∀ a o, H a = some o → ¬ B.foot a → F' a = some o := fun a o e n => s a o (by rw [hide_out n]; exact e)
  have kw : ∀ a, W.foot a → ∃ o, H a = some o ∧ F' a = some o := fun a ha => by
    obtain ⟨o, e⟩ := x.w.has ha
    exact ⟨o, e, keep a o e fun q => x.dj a q ha⟩
  refine ⟨hide W.foot F', fun a o e => ?_, ⟨hide_same.trans b.same, b.c, x.w.frame fun a ha => ?_, fun a ha => ?_, fun a ha => hide_in ha, fun a ha hw => ?_⟩, fun a o e n => ?_⟩
  · obtain ⟨n1, n2⟩ := x.out e
    rw [hide_out n2]
    exact keep a o (x.same a o e) n1
  · obtain ⟨o, e, e2⟩ := kw a ha
    rw [e, b.same a o e2]
  · have := b.out a ha
    by_cases q : W.foot a
    · exact hide_in q
    · rw [hide_out q]
      exact this
  · obtain ⟨o, e, e2⟩ := kw a hw
    rw [b.out a ha] at e2
    cases e2
  · rw [hide_out]
    · exact e
    · intro q
      obtain ⟨u, hu⟩ := x.w.has q
      rw [hide_out fun z => x.dj a z q, hu] at n
      cases n
/-- .. the world -/
theorem Both.world (x : Both A F H B W) (s : Same (hide W.foot H) F') (b : WAt F' H' W') : ∃ F2, Same F F2 ∧ Both A F2 H' B W' ∧ ∀ a o, F' a = some o → hide W.foot H a = none → F2 a = some o := by
  have keep : ∀ a o, H a = some o → ¬ W.foot a → F' a = some o := fun a o e n => s a o (by rw [hide_out n]; exact e)
  have kw : ∀ a, B.foot a → ∃ o, H a = some o ∧ F' a = some o := fun a ha => by
    obtain ⟨o, e⟩ := x.b.has ha
    exact ⟨o, e, keep a o e (x.dj a ha)⟩
  refine ⟨hide B.foot F', fun a o e => ?_, ⟨hide_same.trans b.same, x.b.frame fun a ha => ?_, b.c, fun a ha => hide_in ha, fun a ha => ?_, fun a ha hw => ?_⟩, fun a o e n => ?_⟩
  · obtain ⟨n1, n2⟩ := x.out e
    rw [hide_out n1]
    exact keep a o (x.same a o e) n2
  · obtain ⟨o, e, e2⟩ := kw a ha
    rw [e, b.same a o e2]
  · have := b.out a ha
    by_cases q : B.foot a
    · exact hide_in q
    · rw [hide_out q]
      exact this
  · obtain ⟨o, e, e2⟩ := kw a ha
    rw [b.out a hw] at e2
    cases e2
  · rw [hide_out]
    · exact e
    · intro q
      obtain ⟨u, hu⟩ := x.b.has q
      rw [hide_out (x.dj a q), hu] at n
      cases n
theorem RepIn.to {F0 G : Hp} {p : Addr} {r : Rp} (h : RepIn A F0 F p r) (k : ∀ a o, F a = some o → F0 a = none → G a = some o) : RepIn A F0 G p r := by
  obtain ⟨dx, fl, rm, fs, h, q1, q2, q3, q4⟩ := h
  exact ⟨dx, fl, rm, fs, ⟨k _ _ h.ob q1, k _ _ h.hfl q2, k _ _ h.hrm q3, fun x hx => k _ _ (h.fsF x hx) (q4 x hx), h.fsm⟩, q1, q2, q3, q4⟩
/-- a call of the law that changes the orders alone -/
theorem Both.orders (x : Both A F H B W) {F1 : Hp} {os1 : List TL} (s : Same (hide (oft W.lo W.os) H) F1) (o1 : OrdAt F1 H' W.lo os1) : ∃ F2, Same F F2 ∧ Both A F2 H' B { W with os := os1 } ∧ ∀ a o, F1 a = some o → hide (oft W.lo W.os) H a = none → F2 a = some o := by
  obtain ⟨F2, s2, w2, _, k2, _⟩ := x.w.at_.orders (fun _ => False) s o1 (fun _ z => z.elim)
  obtain ⟨F3, s3, x3, k3⟩ := x.world s2 w2
  refine ⟨F3, s3, x3, fun a o e n => k3 a o (k2 a o e n fun z => z.elim) ?_⟩
  by_cases q : W.foot a
  · exact hide_in q
  · rw [hide_out q]
    rw [hide_out fun z => q (.inr (.inr (.inl z)))] at n
    exact n
end
/-! ### plain: the numbers -/
structure NLe (M : Int) (w : Lw) : Prop where
  o : ∀ o ∈ w.os, o.num ≤ M
  s : ∀ s ∈ w.stops, s.num ≤ M
theorem lstep_nk {M : Int} {rb : Bool} {lim : Option Int} {h : Str} {s : LS} (h1 : ∀ o ∈ s.os, o.num ≤ M) : ∀ o ∈ (lstep rb lim h s).os, o.num ≤ M := by
  unfold lstep
  cases hf : lfirst rb lim s.os with
  | none => exact h1
  | some f =>
    have hm := h1 f (lfirstG_mem hf)
    simp only
    split
    · exact fun o ho => h1 o (mem_rmv.mp ho).1
    · refine fun o ho => ?_
      have ho' : o ∈ lback (hit f (minI s.left f.vis)) s.os := ho
      unfold lback at ho'
      split at ho'
      · split at ho'
        · rcases List.mem_append.mp ho' with q | q
          · exact h1 o (mem_rmv.mp q).1
          · rw [List.mem_singleton.mp q]
            exact hm
        · exact h1 o (mem_rmv.mp ho').1
      · unfold setN at ho'
        obtain ⟨y, hy, rfl⟩ := List.mem_map.mp ho'
        split
        · exact hm
        · exact h1 y hy
theorem LRun.nk {M : Int} {rb : Bool} {lim : Option Int} {h : Str} {s t : LS} (x : LRun rb lim h s t) : (∀ o ∈ s.os, o.num ≤ M) → ∀ o ∈ t.os, o.num ≤ M := by
  induction x with
  | done _ => exact fun h1 => h1
  | step _ _ ih => exact fun h1 => ih (lstep_nk h1)
theorem LEnterR.nk {M : Int} {rest : Bool} {os os' : List Od} {o : Od} {r : Rp} (x : LEnterR rest os o os' r) (h : ∀ o ∈ os, o.num ≤ M) (ho : o.num ≤ M) : ∀ o ∈ os', o.num ≤ M := by
  obtain ⟨t, run, rfl, rfl⟩ := x
  have h1 := run.nk h
  intro x hx
  unfold lrest at hx
  split at hx
  · rcases List.mem_append.mp hx with q | q
    · exact h1 x q
    · rw [List.mem_singleton.mp q]
      exact ho
  · exact h1 x hx
theorem LTrigR.nk {M : Int} {w w' : Lw} {rs : List Rp} (x : LTrigR w w' rs) : NLe M w → NLe M w' := by
  induction x with
  | done _ => exact fun h => h
  | @step w w2 os1 s r rs h1 h2 _ ih =>
    intro h
    exact ih ⟨h2.nk h.o (h.s s (firstR_mem h1)), fun z hz => h.s z (rmvS_num hz).1⟩
theorem LTrigR.ss {w w' : Lw} {rs : List Rp} (x : LTrigR w w' rs) : w'.stops.length ≤ w.stops.length := by
  induction x with
  | done _ => exact Nat.le_refl _
  | @step w w2 os1 s r rs h1 h2 _ ih =>
    have h3 := rmvS_len (n := s.num) (firstR_mem h1) rfl
    have h4 : w2.stops.length ≤ (rmvS s.num w.stops).length := ih
    omega
theorem WInv.mono {N M : Nat} {w : Lw} (i : WInv N w) (h : N ≤ M) : WInv M w := ⟨i.os, i.sp, i.dj, i.qty, Nat.le_trans i.len h⟩
/-- all that the plain world keeps; N: so many numbers are given away -/
structure LOk (N : Nat) (w : Lw) : Prop where
  inv : WInv N w
  hk : HOk w
  nle : NLe (N : Int) w
theorem LOk.trig {N : Nat} {b b' : Bk} {w w' : Lw} {rs rs' : List Rp} (o : LOk N w) (R : Rel b w) (x : TrigR b b' rs) (y : LTrigR w w' rs') : rs = rs' ∧ Rel b' w' ∧ LOk N w' := by
  obtain ⟨e, R2, i2⟩ := trig_rel x R o.inv y
  exact ⟨e, R2, i2, (y.hk o.hk).1, y.nk o.nle⟩
section
variable {P : Program} {w : World} {K : PySem.W.Frag} {mg : Str → Option Value} {base : Heap} {A : Ad}
/-- the end of a command: what is told is what was due -/
theorem law_tail {D : Ends} {σ : L2.St} {i j N : Nat} {F F0 H : Hp} {B : TB} {W : LW} {Pr p : Addr} {n : Int} {h : Str} {sb : Bool} {fills : List Fl} {rem : List Int} {left : Int} {ps : List Addr} {rs : List Rp} {b1 : Bk} {ta : TA}
    (hi : σ[i]? = some (some (.ref Pr))) (hj : σ[j]? = some (some (.ref p))) (hw : σ[1]? = some (some (.ref W.w))) (x : Both A F H B W) (hP : F Pr = some (.lst (ps.map V.ref))) (reps : RepsIn A F0 F ps (⟨n, h, sb, fills, rem, left⟩ :: rs)) (hlen : ps.length ≤ 1001)
    (due : DueAt F p fills rem left) (R : Rel b1 W.lw) (ok : LOk N W.lw) (hN : N ≤ 30) (hh : hOk h) (hf : ∀ f ∈ fills, hOk f.house) (tr : TrigR b1 B.bk rs)
    (hta : ∀ H' Qx, Same F H' → Qx [.int n, .str h, .str (sd sb)] H' → ta σ H' Qx)
    (k : ∀ F' H' W', Same F F' → Both A F' H' B W' → Rel B.bk W'.lw → LOk N W'.lw → W'.w = W.w → D.rt (.bl true) H') :
    (tRet (tOp (rEqD K) (tCall (spTold K A) [] E0 (tCons (tVar i) tNil)) (tOp rCat (tLst (tCons (tOp (rCatT K) (tTup ta) (tVar j)) tNil)) (tCall (spLTrig K) [] E0 (tCons (tVar 1) tNil))))) D σ H := by
  refine ⟨_, hi, F0, F, fun a => B.foot a ∨ W.foot a, Pr, ps, _, rfl, x.same, hP, reps, fun a ha => ?_, by omega, fun F1 H1 q1 sF1 s1 sFH1 av1 dp1 => ?_⟩
  · rcases ha with z | z
    · exact ⟨x.ob a z, x.b.has z⟩
    · exact ⟨x.ow a z, x.w.has z⟩
  have x1 : Both A F1 H1 B W := ⟨sFH1, x.b.sameH s1, x.w.sameH s1, fun a ha => av1 a (.inl ha), fun a ha => av1 a (.inr ha), x.dj⟩
  refine hta H1 _ (sF1.trans sFH1) ⟨(by show 3 ≤ sizeLine; decide), fun a2 ha2 => ?_⟩
  have x2 := x1.newF (o := .tup [.int n, .str h, .str (sd sb)]) ha2
  have sF2 : Same F1 (upd F1 a2 (.tup [.int n, .str h, .str (sd sb)])) := Same.newH (x1.same.free ha2)
  obtain ⟨fl, rm, fs, d1, d2, d3, d4, d5⟩ := due
  refine ⟨_, hj, _, _, _, _, rfl, rfl, SqT.of upd_same, SqT.of (x2.same _ _ ((sF1.trans sF2) _ _ d1)), List.cons_ne_nil _ _, (by show 6 ≤ sizeLine; decide), (fun e => nomatch e), fun _ a3 ha3 => ?_⟩
  have x3 := x2.newF (o := .tup ([.int n, .str h, .str (sd sb)] ++ [.ref fl, .ref rm, .int left])) ha3
  have sF3 := sF2.trans (Same.newH (a := a3) (o := .tup ([.int n, .str h, .str (sd sb)] ++ [.ref fl, .ref rm, .int left])) (x2.same.free ha3))
  refine ⟨(by show 1 ≤ sizeLine; decide), fun a4 ha4 => ?_⟩
  have x4 := x3.newF (o := .lst [.ref a3]) ha4
  have sF34 := Same.newH (o := .lst [.ref a3]) (x3.same.free ha4)
  have sF4 := sF3.trans sF34
  have sF := sF1.trans sF4
  have row := Dp.tup (K := K) (SqT.of (K := K) (sF34 _ _ upd_same)) (.cons (.int n) (.cons (.str h) (.cons (.str (sd sb)) (.cons (dp_fills (sF _ _ d2) (fun y hy => sF _ _ (d4 y hy)) d5) (.cons (dp_rem (sF _ _ d3)) (.cons (.int left) .nil))))))
  have h4 : (upd (upd (upd F1 a2 (.tup [.int n, .str h, .str (sd sb)])) a3 (.tup ([.int n, .str h, .str (sd sb)] ++ [.ref fl, .ref rm, .int left]))) a4 (.lst [.ref a3])) a4 = some (.lst [.ref a3]) := upd_same
  have dp4 := dp_mono sF4 dp1
  generalize upd (upd (upd F1 a2 (.tup [.int n, .str h, .str (sd sb)])) a3 (.tup ([.int n, .str h, .str (sd sb)] ++ [.ref fl, .ref rm, .int left]))) a4 (.lst [.ref a3]) = F4 at x4 sF4 sF row h4 dp4
  have hss : W.ss.length ≤ 39 := by
    have h1 := ok.inv.len
    have h2 : W.lw.stops.length = W.ss.length := List.length_map ..
    omega
  refine ⟨_, hw, _, W, rfl, x4.w.at_, ok.inv.mono (by omega), ok.hk, hss, fun F5 H5 W5 p5 vs5 rs5 s5 w5 lt hp5 dv5 fp5 len5 ew => ?_⟩
  obtain ⟨F6, s6, x6, k6⟩ := x4.world s5 w5
  obtain ⟨ers, R6, ok6⟩ := ok.trig R tr lt
  subst ers
  refine ⟨a4, p5, _, _, rfl, rfl, x6.same _ _ (s6 _ _ h4), w5.same _ _ hp5, (by show 1 + vs5.length ≤ sizeLine; exact Nat.le_trans (show 1 + vs5.length ≤ 2000 by omega) (by decide)), fun a7 ha7 => ?_⟩
  have dq : Dp K (upd H5 a7 (.lst ([.ref a3] ++ vs5))) (.ref q1) (.list ((⟨n, h, sb, fills, rem, left⟩ :: rs).map rdata)) := dp_mono ((s6.trans x6.same).trans (Same.newH ha7)) dp4
  have dr : Dp K (upd H5 a7 (.lst ([.ref a3] ++ vs5))) (.ref a7) (.list ((⟨n, h, sb, fills, rem, left⟩ :: rs).map rdata)) := .lst (SqL.of upd_same) (.cons (dp_mono ((s6.trans x6.same).trans (Same.newH ha7)) row) (dpa_mono (w5.same.trans (Same.newH ha7)) dv5))
  have hrs := (lt.hk ok.hk).2
  have lay : Lay 4 (.list ((⟨n, h, sb, fills, rem, left⟩ :: rs).map rdata)) := .list fun d hd => by
    obtain ⟨r, hr, rfl⟩ := List.mem_map.mp hd
    rcases List.mem_cons.mp hr with e | hr
    · rw [e]
      exact lay_rdata hh hf
    · exact lay_rdata (hrs r hr).1 (hrs r hr).2
  refine ⟨_, _, dq, dr, lay.shaped (by decide), lay.shaped (by decide), ?_⟩
  rw [SeqAt.eqv_refl _ lay.can]
  exact k F6 _ W5 (sF.trans s6) (x6.new ha7) R6 ok6 ew
end
end K29
end

section
set_option Elab.async false
set_option maxRecDepth 100000
set_option maxHeartbeats 4000000
set_option linter.unusedVariables false
/-! the law: _law_submit -/
namespace K29
open PySem L2
theorem inj_nd {α β : Type} {f : α → β} : ∀ {L : List α}, (L.map f).Nodup → ∀ {x y : α}, x ∈ L → y ∈ L → f x = f y → x = y
  | [], _, x, y, h, _, _ => nomatch h
  | o :: os, hn, x, y, hx, hy, e => by
    rw [List.map_cons, List.nodup_cons] at hn
    rcases List.mem_cons.mp hx with hx | hx
    · rcases List.mem_cons.mp hy with hy | hy
      · rw [hx, hy]
      · exact absurd (List.mem_map.mpr ⟨y, hy, by rw [← e, hx]⟩) hn.1
    · rcases List.mem_cons.mp hy with hy | hy
      · exact absurd (List.mem_map.mpr ⟨x, hx, by rw [e, hy]⟩) hn.1
      · exact inj_nd hn.2 hx hy e
/-- the program's book keeps its word as the plain one does -/
theorem Rel.binv {b : Bk} {w : Lw} {N : Nat} (R : Rel b w) (i : WInv N w) : BInv N b := by
  refine ⟨fun s f hf => ?_, fun s hs => i.qty s (by rw [← R.stops]; exact hs), ?_⟩
  · rw [R.L] at hf
    obtain ⟨h1, h2⟩ := (mem_srt _).mp hf
    exact ⟨i.os.good f h1, h2⟩
  · rw [R.L, R.L, R.stops, len_srt]
    exact i.len
/-- an order of the book is the only one with its number -/
theorem Rel.only {B : TB} {w : Lw} {N : Nat} (R : Rel B.bk w) (i : WInv N w) {s : Bool} {t : TO} (ht : t ∈ B.os s) : ∀ r, ∀ u ∈ B.os r, u.d.num = t.d.num → u = t := by
  have mem : ∀ r, ∀ u ∈ B.os r, u.d ∈ w.os ∧ u.d.buy = r := fun r u hu => by
    have : u.d ∈ B.bk.L r := List.mem_map.mpr ⟨u, hu, rfl⟩
    rw [R.L] at this
    exact (mem_srt _).mp this
  intro r u hu e
  obtain ⟨h1, h2⟩ := mem r u hu
  obtain ⟨h3, h4⟩ := mem s t ht
  have hd := uniq i.os.nd h1 h3 e
  have hrs : r = s := by rw [← h2, ← h4, hd]
  subst hrs
  have nd : ((B.os r).map (·.d.num)).Nodup := by
    have h5 := nd_srt (b := r) i.os.nd
    rw [← R.L] at h5
    have e5 : (B.bk.L r).map (·.num) = (B.os r).map (·.d.num) := by
      show ((B.os r).map (·.d)).map (·.num) = _
      rw [List.map_map]
      rfl
    rwa [e5] at h5
  exact inj_nd nd hu ht e
theorem LOk.stop {N : Nat} {w : Lw} {z : Sd} {l : Option Int} (o : LOk N w) (hz : z.num = (N : Int) + 1) (hh : hOk z.house) (h1 : 1 ≤ z.qty) (h2 : z.qty ≤ 1000) : LOk (N + 1) ⟨w.os, w.stops ++ [z], l⟩ := by
  have hs : ∀ s ∈ w.stops ++ [z], s ∈ w.stops ∨ s = z := fun s hs => by
    rcases List.mem_append.mp hs with q | q
    · exact .inl q
    · exact .inr (List.mem_singleton.mp q)
  refine ⟨⟨o.inv.os, ?_, fun s hm u hu => ?_, fun s hm => ?_, ?_⟩, ⟨o.hk.o, fun s hm => ?_⟩, fun u hu => ?_, fun s hm => ?_⟩
  · show ((w.stops ++ [z]).map (·.num)).Pairwise (· < ·)
    rw [List.map_append, List.pairwise_append]
    refine ⟨o.inv.sp, List.pairwise_singleton _ _, fun a ha b hb => ?_⟩
    obtain ⟨s, hs, rfl⟩ := List.mem_map.mp ha
    rw [List.map_cons, List.map_nil, List.mem_singleton] at hb
    rw [hb, hz]
    have := o.nle.s s hs
    omega
  · rcases hs s hm with q | q
    · exact o.inv.dj s q u hu
    · rw [q, hz]
      have := o.nle.o u hu
      omega
  · rcases hs s hm with q | q
    · exact o.inv.qty s q
    · rw [q]
      exact ⟨h1, h2⟩
  · have := o.inv.len
    show w.os.length + (w.stops ++ [z]).length ≤ N + 1
    rw [List.length_append, List.length_singleton]
    omega
  · rcases hs s hm with q | q
    · exact o.hk.s s q
    · rw [q]
      exact hh
  · have := o.nle.o u hu
    omega
  · rcases hs s hm with q | q
    · have := o.nle.s s q
      omega
    · rw [q, hz]
      omega
theorem LOk.order {N : Nat} {w : Lw} {o : Od} {os' : List Od} {r : Bool} {rp : Rp} {l : Option Int} (k : LOk N w) (ho : o.num = (N : Int) + 1) (hh : hOk o.house) (en : LEnterR r w.os o os' rp) (eo : EnterOut o w.os os') : LOk (N + 1) ⟨os', w.stops, l⟩ := by
  refine ⟨⟨eo.i, k.inv.sp, fun s hs u hu => ?_, k.inv.qty, ?_⟩, ⟨(en.hk k.hk.o hh).1, k.hk.s⟩, en.nk (fun u hu => ?_) (by rw [ho]; omega), fun s hs => ?_⟩
  · rcases eo.nums u hu with e | ⟨y, hy, e⟩
    · have := k.nle.s s hs
      omega
    · rw [← e]
      exact k.inv.dj s hs y hy
  · have := eo.len
    have := k.inv.len
    show os'.length + w.stops.length ≤ N + 1
    omega
  · have := k.nle.o u hu
    omega
  · have := k.nle.s s hs
    omega
/-- behind both commands, ahead of the last price and of the stop orders -/
structure DueSt (A : Ad) (F0 F H : Hp) (B : TB) (W : LW) (N : Nat) (n : Int) (h : Str) (sb : Bool) (fills : List Fl) (rem : List Int) (left : Int) (Pr p : Addr) (ps : List Addr) (rs : List Rp) (b1 : Bk) : Prop where
  x : Both A F H B W
  hP : F Pr = some (.lst (ps.map V.ref))
  reps : RepsIn A F0 F ps (⟨n, h, sb, fills, rem, left⟩ :: rs)
  hlen : ps.length ≤ 1001
  due : DueAt F p fills rem left
  R : Rel b1 ⟨W.lw.os, W.lw.stops, lastOf W.last fills⟩
  ok : LOk N ⟨W.lw.os, W.lw.stops, lastOf W.last fills⟩
  hh : hOk h
  hf : ∀ f ∈ fills, hOk f.house
  tr : TrigR b1 B.bk rs
section
variable {P : Program} {w : World} {K : PySem.W.Frag} {mg : Str → Option Value} {base : Heap} {A : Ad}
theorem law_end {D : Ends} {σ : L2.St} {i j N : Nat} {F F0 H : Hp} {B : TB} {W : LW} {Pr p : Addr} {n : Int} {h : Str} {sb : Bool} {fills : List Fl} {rem : List Int} {left : Int} {ps : List Addr} {rs : List Rp} {b1 : Bk} {ta : TA}
    (S : DueSt A F0 F H B W N n h sb fills rem left Pr p ps rs b1) (hi : σ[i]? = some (some (.ref Pr))) (hj : σ[j]? = some (some (.ref p))) (hw : σ[1]? = some (some (.ref W.w))) (hN : N ≤ 30)
    (hta : ∀ H' Qx, Same F H' → Qx [.int n, .str h, .str (sd sb)] H' → ta σ H' Qx)
    (k : ∀ F' H' W', Same F F' → Both A F' H' B W' → Rel B.bk W'.lw → LOk N W'.lw → W'.w = W.w → D.rt (.bl true) H') :
    (tSeq (sDPut (tVar 1) (tC (.str "last")) (tCall spLast [] E0 (tCons (tDGet (tVar 1) (tC (.str "last"))) (tCons (tVar j) tNil)))) (tRet (tOp (rEqD K) (tCall (spTold K A) [] E0 (tCons (tVar i) tNil)) (tOp rCat (tLst (tCons (tOp (rCatT K) (tTup ta) (tVar j)) tNil)) (tCall (spLTrig K) [] E0 (tCons (tVar 1) tNil)))))) D σ H := by
  have c := S.x.w
  refine ⟨_, hw, W.w, _, rfl, c.gL, _, hj, W.last, p, fills, rem, left, rfl, S.due.mono S.x.same, ?_⟩
  refine ⟨_, hw, W.w, _, rfl, .inl ⟨_, .inr "last", c.w, rfl, (by show 3 < sizeLine; decide), rfl⟩, ?_⟩
  rw [show putK (wkv W.lo W.ls W.last) (Sum.inr ("last" : Str) : Key) (pV (lastOf W.last fills)) = wkv W.lo W.ls (lastOf W.last fills) from wkv_put _ _ _ _]
  obtain ⟨F1, s1, x1, _⟩ := S.x.world (Same.refl _) (c.at_.setLast (lastOf W.last fills))
  exact law_tail (W := { W with last := lastOf W.last fills }) hi hj hw x1 (s1 _ _ S.hP) (S.reps.mono s1) S.hlen (S.due.mono s1) S.R S.ok hN S.hh S.hf S.tr (fun H' Qx s q => hta H' Qx (s1.trans s) q) fun F' H' W' s x R ok ew => k F' H' W' (s1.trans s) x R ok ew
theorem side_at {i : Int} (h0 : 0 ≤ i) (h1 : i < 2) : ∃ b, atI [V.str "buy", .str "sell"] i = some (.str (sd b)) := by
  obtain h | h : i = 0 ∨ i = 1 := by omega
  · exact ⟨true, by subst h; rfl⟩
  · exact ⟨false, by subst h; rfl⟩
theorem kind_at {i : Int} (h0 : 0 ≤ i) (h1 : i < 3) : ∃ r, atI [V.str "rest", .str "rest", .str "now"] i = some (.str (kd r)) := by
  obtain h | h | h : i = 0 ∨ i = 1 ∨ i = 2 := by omega
  · exact ⟨true, by subst h; rfl⟩
  · exact ⟨true, by subst h; rfl⟩
  · exact ⟨false, by subst h; rfl⟩
def spLSubmit (A : Ad) : Sp := fun vs H Q _ => ∃ (F : Hp) (B : TB) (W : LW) (N : Nat) (cell : Int), vs = [.ref B.p, .ref W.w, .int cell, .int ((N : Int) + 1)] ∧ Both A F H B W ∧ Rel B.bk W.lw ∧ LOk N W.lw ∧ B.next = (N : Int) + 1 ∧ N ≤ 28 ∧
  ∀ F' H' B' W', Same F F' → Both A F' H' B' W' → Rel B'.bk W'.lw → LOk (N + 1) W'.lw → B'.next = (N : Int) + 2 → B'.p = B.p → W'.w = W.w → Q (.bl true) H'
theorem ok_law_submit (T : Txt K mg A) : FnOk P w K mg base CX0 8 A.f_law_submit A.d_law_submit ["_law_book", "_law_world", "_law_cell", "_law_number"] (spLSubmit A) := by
  refine T.F_law_submit.ok sc_law_submit (fun vs H Q E h => ?_) (fun cdv Ar outer s H vs Q E hr h => ?_)
  · obtain ⟨_, _, _, _, _, rfl, _⟩ := h
    rfl
  · obtain ⟨F, B, W, N, cell, rfl, x, R, ok, hnx, hN, k⟩ := h
    refine ⟨_, (pss_cons (ps_set (i := 4) sc_law_submit.nd rfl (Or.inl rfl) (pe_call (ok_law_house T) (hr.mono (by decide)) (by rfl) T.g_law_house T.F_law_house.kp T.b_law_house .nil pass0 (pa_cons (pv 2) pa_nil)))
      (pss_cons (ps_set (i := 5) sc_law_submit.nd rfl (Or.inl rfl) (pe_ix ix_list (pe_lst (pa_cons pe_str (pa_cons pe_str pa_nil))) (pe_op op_mod (pe_op op_fdiv (pe_callTy call_int1 (by rfl) T.z_int PyProof.Rows.boot_int (pa_cons (pv 2) pa_nil)) pe_int) pe_int) (fun _ _ => rfl)))
      (pss_cons (ps_set (i := 6) sc_law_submit.nd rfl (Or.inl rfl) (pe_op op_add pe_int (pe_op op_mod (pe_op op_fdiv (pe_callTy call_int1 (by rfl) T.z_int PyProof.Rows.boot_int (pa_cons (pv 2) pa_nil)) pe_int) pe_int)))
      (pss_cons (ps_set (i := 7) sc_law_submit.nd rfl (Or.inl rfl) (pe_op op_add pe_int (pe_op op_mod (pe_op op_fdiv (pe_callTy call_int1 (by rfl) T.z_int PyProof.Rows.boot_int (pa_cons (pv 2) pa_nil)) pe_int) pe_int)))
      (Evl.pss_cut (ps_if (pt_cmpR op_eq (pe_op op_mod (pe_op op_fdiv (pe_callTy call_int1 (by rfl) T.z_int PyProof.Rows.boot_int (pa_cons (pv 2) pa_nil)) pe_int) pe_int) pe_int (nomark _)) (pss_cons (ps_set (i := 8) sc_law_submit.nd rfl (Or.inl rfl) (pe_op op_add pe_int (pe_op op_mod (pe_op op_fdiv (pe_callTy call_int1 (by rfl) T.z_int PyProof.Rows.boot_int (pa_cons (pv 2) pa_nil)) pe_int) pe_int)))
      (Evl.pss_cut (ps_if (pt_cmpR op_eq (pe_op op_mod (pe_op op_fdiv (pe_callTy call_int1 (by rfl) T.z_int PyProof.Rows.boot_int (pa_cons (pv 2) pa_nil)) pe_int) pe_int) pe_int (nomark _)) (pss_one (ps_set (i := 6) sc_law_submit.nd rfl (Or.inl rfl) pe_non)) pss_nil)
      (pss_cons (ps_expr (pe_bm PySem.F.plainAttrs_list PySem.F.slot_list_append PySem.F.type_list_append mt_append (pe_dget (hu_of hr) (pv 1) pe_str (fun _ _ => rfl)) (pa_cons (pe_tup (pa_cons (pv 3) (pa_cons (pv 4) (pa_cons (pv 5) (pa_cons (pv 8) (pa_cons (pv 6) (pa_cons (pv 7) pa_nil))))))) pa_nil)))
      (pss_cons (ps_set (i := 9) sc_law_submit.nd rfl (Or.inl rfl) (pe_meth (pv 0) T.cB T.h_Bsubmit_stop (ok_submit_stop T) (hr.mono (by decide)) T.b_Bsubmit_stop .nil pass0 (pa_cons (pv 4) (pa_cons (pv 5) (pa_cons (pv 8) (pa_cons (pv 6) (pa_cons (pv 7) pa_nil)))))))
      (pss_one (ps_set (i := 10) sc_law_submit.nd rfl (Or.inl rfl) (pe_tup (pa_cons (pe_lst pa_nil) (pa_cons (pe_lst pa_nil) (pa_cons pe_int pa_nil)))))))))) (pss_cons (ps_set (i := 11) sc_law_submit.nd rfl (Or.inl rfl) (pe_ix ix_list (pe_lst (pa_cons pe_str (pa_cons pe_str (pa_cons pe_str pa_nil)))) (pe_op op_mod (pe_op op_fdiv (pe_callTy call_int1 (by rfl) T.z_int PyProof.Rows.boot_int (pa_cons (pv 2) pa_nil)) pe_int) pe_int) (fun _ _ => rfl)))
      (pss_cons (ps_set (i := 12) sc_law_submit.nd rfl (Or.inl rfl) pe_int)
      (Evl.pss_cut (ps_if (pt_cmpR op_eq (pv 11) pe_str (nomark _)) (pss_one (ps_set (i := 12) sc_law_submit.nd rfl (Or.inl rfl) (pe_op op_mod (pe_op op_fdiv (pe_callTy call_int1 (by rfl) T.z_int PyProof.Rows.boot_int (pa_cons (pv 2) pa_nil)) pe_int) (pe_op op_add (pv 7) pe_int)))) (pss_one (ps_if (pt_cmpR op_eq (pe_op op_mod (pe_op op_fdiv (pe_callTy call_int1 (by rfl) T.z_int PyProof.Rows.boot_int (pa_cons (pv 2) pa_nil)) pe_int) pe_int) pe_int (nomark _)) (pss_one (ps_set (i := 6) sc_law_submit.nd rfl (Or.inl rfl) pe_non)) pss_nil)))
      (pss_cons (ps_set (i := 9) sc_law_submit.nd rfl (Or.inl rfl) (pe_methN (pv 0) T.cB T.h_Bsubmit (ok_submit T) (hr.mono (by decide)) T.b_Bsubmit pass0 (pa_cons (pv 4) (pa_cons (pv 5) (pa_cons (pv 6) (pa_cons (pv 7) pa_nil)))) (pk_cons (pv 11) (pk_cons (pv 12) pk_nil))))
      (pss_one (ps_set (i := 10) sc_law_submit.nd rfl (Or.inl rfl) (pe_call (ok_law_enter T) (hr.mono (by decide)) (by rfl) T.g_law_enter T.F_law_enter.kp T.b_law_enter .nil pass0 (pa_cons (pe_dget (hu_of hr) (pv 1) pe_str (fun _ _ => rfl)) (pa_cons (pv 3) (pa_cons (pv 4) (pa_cons (pv 5) (pa_cons (pv 6) (pa_cons (pv 7) (pa_cons (pv 11) (pa_cons (pv 12) pa_nil))))))))))))))))
      (pss_cons (ps_dput (hu_of hr) (pv 1) pe_str (pe_call (ok_law_last T) (hr.mono (by decide)) (by rfl) T.g_law_last T.F_law_last.kp T.b_law_last .nil pass0 (pa_cons (pe_dget (hu_of hr) (pv 1) pe_str (fun _ _ => rfl)) (pa_cons (pv 10) pa_nil))) rfl)
      (pss_one (ps_ret (pe_cmpR (op_eqD hr.units) (pe_call (ok_law_told T) (hr.mono (by decide)) (by rfl) T.g_law_told T.F_law_told.kp T.b_law_told .nil pass0 (pa_cons (pv 9) pa_nil)) (pe_op op_cat (pe_lst (pa_cons (pe_op op_catT (pe_tup (pa_cons (pv 3) (pa_cons (pv 4) (pa_cons (pv 5) pa_nil)))) (pv 10)) pa_nil)) (pe_call (ok_law_triggered T) (hr.mono (by decide)) (by rfl) T.g_law_triggered T.F_law_triggered.kp T.b_law_triggered .nil pass0 (pa_cons (pv 1) pa_nil))) (nomark _)))))))))), ?_⟩
    refine ⟨_, rfl, cell, rfl, fun h H1 hh s1 => ?_⟩
    have x1 := x.sameH s1
    refine ⟨(by show 2 ≤ sizeLine; decide), fun l hl => ?_⟩
    have x2 := x1.new (o := .lst [.str "buy", .str "sell"]) hl
    obtain ⟨sb, hsb⟩ := side_at (i := cell / 4 % 2) (Int.emod_nonneg _ (by decide)) (Int.emod_lt_of_pos _ (by decide))
    refine ⟨_, rfl, .inl ⟨cell, rfl, cell, 4, rfl, rfl, ⟨by decide, by decide⟩, _, 2, rfl, rfl, (by show (0 : Int) < 2; decide), _, _, _, _, rfl, rfl, SqL.of upd_same, hsb, ?_⟩⟩
    generalize upd H1 l (.lst [.str "buy", .str "sell"]) = H2 at x2
    have hl1 := Int.emod_nonneg (cell / 8) (show (7 : Int) ≠ 0 by decide)
    have hl2 := Int.emod_lt_of_pos (cell / 8) (show (0 : Int) < 7 by decide)
    refine ⟨_, rfl, .inl ⟨cell, rfl, cell, 8, rfl, rfl, ⟨by decide, by decide⟩, _, 7, rfl, rfl, (by show (0 : Int) < 7; decide), _, _, rfl, rfl, ?_⟩⟩
    generalize hm7 : cell / 8 % 7 = m7 at hl1 hl2
    have hq1 := Int.emod_nonneg (cell / 56) (show (9 : Int) ≠ 0 by decide)
    have hq2 := Int.emod_lt_of_pos (cell / 56) (show (0 : Int) < 9 by decide)
    refine ⟨_, rfl, .inl ⟨cell, rfl, cell, 56, rfl, rfl, ⟨by decide, by decide⟩, _, 9, rfl, rfl, (by show (0 : Int) < 9; decide), _, _, rfl, rfl, ?_⟩⟩
    generalize hm9 : cell / 56 % 9 = m9 at hq1 hq2
    have binv : BInv 999 B.bk := R.binv (ok.inv.mono (by omega))
    refine ⟨fun σ' H'' => ∃ (v6 v8 v11 v12 : Option V) (F0 F1 : Hp) (B1 : TB) (W1 : LW) (fills : List Fl) (rem : List Int) (left : Int) (Pr p : Addr) (ps : List Addr) (rs : List Rp) (b1 : Bk), σ' = [some (.ref B.p), some (.ref W.w), some (.int cell), some (.int ((N : Int) + 1)), some (.str h), some (.str (sd sb)), v6, some (.int (1 + m9)), v8, some (.ref Pr), some (.ref p), v11, v12] ∧
      Same F F1 ∧ DueSt A F0 F1 H'' B1 W1 (N + 1) ((N : Int) + 1) h sb fills rem left Pr p ps rs b1 ∧ B1.next = (N : Int) + 2 ∧ B1.p = B.p ∧ W1.w = W.w, ?_, ?_⟩
    · refine ⟨_, rfl, .inl ⟨cell, rfl, cell, 504, rfl, rfl, ⟨by decide, by decide⟩, _, 3, rfl, rfl, (by show (0 : Int) < 3; decide), rfl, _, rfl, ?_⟩⟩
      rw [int_eq]
      have hlss : W.ss.length ≤ 1000 := by
        have h1 := ok.inv.len
        have h2 : W.lw.stops.length = W.ss.length := List.length_map ..
        omega
      have hlos : W.os.length ≤ 900 := by
        have h1 := ok.inv.len
        have h2 : W.lw.os.length = W.os.length := List.length_map ..
        omega
      have rl : Rng (97 + m7) := ⟨by omega, by omega⟩
      by_cases hst : cell / 504 % 3 = 0
      · refine iteTe (decide_eq_true hst) ?_
        have ht1 := Int.emod_nonneg (cell / 1512) (show (7 : Int) ≠ 0 by decide)
        have ht2 := Int.emod_lt_of_pos (cell / 1512) (show (0 : Int) < 7 by decide)
        refine ⟨_, rfl, .inl ⟨cell, rfl, cell, 1512, rfl, rfl, ⟨by decide, by decide⟩, _, 7, rfl, rfl, (by show (0 : Int) < 7; decide), _, _, rfl, rfl, ?_⟩⟩
        generalize hmt : cell / 1512 % 7 = mt at ht1 ht2
        refine ⟨fun σ' H'' => ∃ lim : Option Int, (∀ i, lim = some i → Rng i) ∧ σ' = [some (.ref B.p), some (.ref W.w), some (.int cell), some (.int ((N : Int) + 1)), some (.str h), some (.str (sd sb)), some (pV lim), some (.int (1 + m9)), some (.int (97 + mt)), none, none, none, none] ∧ H'' = H2, ?_, ?_⟩
        · refine ⟨_, rfl, .inl ⟨cell, rfl, cell, 10584, rfl, rfl, ⟨by decide, by decide⟩, _, 2, rfl, rfl, (by show (0 : Int) < 2; decide), rfl, _, rfl, ?_⟩⟩
          rw [int_eq]
          by_cases hl : cell / 10584 % 2 = 0
          · refine iteTe (decide_eq_true hl) ?_
            exact ⟨none, fun i e => (nomatch e), rfl, rfl⟩
          · refine iteFe (decide_eq_false hl) ?_
            exact ⟨some (97 + m7), fun i e => by cases e; exact rl, rfl, rfl⟩
        · rintro _ H2 ⟨lim, hlim, rfl, rfl⟩
          refine ⟨_, rfl, W.w, _, rfl, x2.w.gS, .inl ⟨rfl, _, SqL.of x2.w.ls⟩, _, rfl, _, rfl, _, rfl, _, rfl, _, rfl, _, rfl, (by show 6 ≤ sizeLine; decide), fun tp htp => ?_⟩
          have w3 := (x2.w.at_.new (o := .tup (srow ⟨(N : Int) + 1, h, sb, 97 + mt, lim, 1 + m9⟩)) htp).snocS (t := ⟨tp, ⟨(N : Int) + 1, h, sb, 97 + mt, lim, 1 + m9⟩⟩) upd_same (hide_same.free htp)
          obtain ⟨F4, s4, x4, _⟩ := x2.world (Same.refl _) w3
          have lsne : W.ls ≠ tp := ne_of_none x2.w.ls htp
          refine ⟨W.ls, _, _, rfl, rfl, (upd_ne lsne).trans x2.w.ls, by rw [List.length_map]; exact Nat.lt_of_le_of_lt hlss (by decide), ?_⟩
          have x4' : Both A F4 (upd (upd H2 tp (.tup [.int ((N : Int) + 1), .str h, .str (sd sb), .int (97 + mt), pV lim, .int (1 + m9)])) W.ls (.lst (W.ss.map TP.ref ++ [.ref tp]))) B { W with ss := W.ss ++ [⟨tp, ⟨(N : Int) + 1, h, sb, 97 + mt, lim, 1 + m9⟩⟩] } := x4
          generalize upd (upd H2 tp (.tup [.int ((N : Int) + 1), .str h, .str (sd sb), .int (97 + mt), pV lim, .int (1 + m9)])) W.ls (.lst (W.ss.map TP.ref ++ [.ref tp])) = H4 at x4'
          refine ⟨_, rfl, B.p, B.dx, _, rfl, x4'.b.ob, bfs_no_submit_stop _ _ _ _, _, rfl, _, rfl, _, rfl, _, rfl, _, rfl, _, B, ⟨(N : Int) + 1, h, sb, 97 + mt, lim, 1 + m9⟩, rfl, hnx.symm, x4'.b.at_, binv, ⟨by show 1 ≤ 97 + mt; omega, by show 97 + mt ≤ 1000000; omega⟩, hlim, (by show 1 ≤ 1 + m9; omega), (by show 1 + m9 ≤ 1000; omega), fun F' H' B' Pr rs ps so tr nx => ?_⟩
          obtain ⟨F5, s5, x5, k5⟩ := x4'.book so.same so.book
          refine ⟨Nat.zero_le _, fun fl hfl => ⟨Nat.zero_le _, fun rm hrm => ⟨(by show 3 ≤ sizeLine; decide), fun p hp => ?_⟩⟩⟩
          have x6 := x5.newF (o := .lst []) hfl
          have x7 := x6.newF (o := .lst []) hrm
          have x8 := x7.newF (o := .tup [.ref fl, .ref rm, .int 0]) hp
          have n6 : Same F5 (upd F5 fl (.lst [])) := Same.newH (x5.same.free hfl)
          have n7 : Same (upd F5 fl (.lst [])) (upd (upd F5 fl (.lst [])) rm (.lst [])) := Same.newH (x6.same.free hrm)
          have n8 : Same (upd (upd F5 fl (.lst [])) rm (.lst [])) (upd (upd (upd F5 fl (.lst [])) rm (.lst [])) p (.tup [.ref fl, .ref rm, .int 0])) := Same.newH (x7.same.free hp)
          have n58 := (n6.trans n7).trans n8
          have okS := ok.stop (z := ⟨(N : Int) + 1, h, sb, 97 + mt, lim, 1 + m9⟩) (l := W.last) rfl hh (by show 1 ≤ 1 + m9; omega) (by show 1 + m9 ≤ 1000; omega)
          have elw : ({ W with ss := W.ss ++ [⟨tp, ⟨(N : Int) + 1, h, sb, 97 + mt, lim, 1 + m9⟩⟩] } : LW).lw = ⟨W.lw.os, W.lw.stops ++ [⟨(N : Int) + 1, h, sb, 97 + mt, lim, 1 + m9⟩], W.last⟩ := by
            show (⟨_, (W.ss ++ [(⟨tp, ⟨(N : Int) + 1, h, sb, 97 + mt, lim, 1 + m9⟩⟩ : TP)]).map (·.d), _⟩ : Lw) = _
            rw [List.map_append]
            rfl
          refine ⟨_, _, _, _, hide B.foot H4, _, B', { W with ss := W.ss ++ [⟨tp, ⟨(N : Int) + 1, h, sb, 97 + mt, lim, 1 + m9⟩⟩] }, [], [], 0, Pr, p, ps, rs, { B.bk with stops := B.bk.stops ++ [⟨(N : Int) + 1, h, sb, 97 + mt, lim, 1 + m9⟩] }, rfl, (s4.trans s5).trans n58,
            ⟨x8, n58 _ _ (k5 _ _ so.hp so.fp), so.reps.imp fun _ _ z => (z.to k5).mono n58, so.len, ⟨fl, rm, [], upd_same, n8 _ _ (n7 _ _ upd_same), n8 _ _ upd_same, fun y hy => (nomatch hy), rfl⟩, ⟨R.L, ?_, R.last⟩, ?_, hh, fun y hy => (nomatch hy), tr⟩, nx.trans (by rw [hnx]; omega), so.p, rfl⟩
          · rw [elw]
            show B.bk.stops ++ [_] = W.lw.stops ++ [_]
            rw [R.stops]
          · rw [elw]
            exact okS
      · refine iteFe (decide_eq_false hst) ?_
        refine ⟨(by show 3 ≤ sizeLine; decide), fun l2 hl2 => ?_⟩
        have x3 := x2.new (o := .lst [.str "rest", .str "rest", .str "now"]) hl2
        obtain ⟨r, hr2⟩ := kind_at (i := cell / 1512 % 3) (Int.emod_nonneg _ (by decide)) (Int.emod_lt_of_pos _ (by decide))
        refine ⟨_, rfl, .inl ⟨cell, rfl, cell, 1512, rfl, rfl, ⟨by decide, by decide⟩, _, 3, rfl, rfl, (by show (0 : Int) < 3; decide), _, _, _, _, rfl, rfl, SqL.of upd_same, hr2, ?_⟩⟩
        generalize upd H2 l2 (.lst [.str "rest", .str "rest", .str "now"]) = H3 at x3
        refine ⟨fun σ' H'' => ∃ (lim : Option Int) (sh : Int), (∀ i, lim = some i → Rng i) ∧ (r = true → lim.isSome = true) ∧ 0 ≤ sh ∧ sh ≤ 1 + m9 ∧ (0 < sh → r = true) ∧ σ' = [some (.ref B.p), some (.ref W.w), some (.int cell), some (.int ((N : Int) + 1)), some (.str h), some (.str (sd sb)), some (pV lim), some (.int (1 + m9)), none, none, none, some (.str (kd r)), some (.int sh)] ∧ H'' = H3, ?_, ?_⟩
        · refine ⟨_, rfl, rfl, _, rfl, ?_⟩
          rw [kd_rest]
          cases r with
          | true =>
            refine iteT ?_
            have hs1 := Int.emod_nonneg (cell / 4536) (show (1 + m9 + 1 : Int) ≠ 0 by omega)
            have hs2 := Int.emod_lt_of_pos (cell / 4536) (show (0 : Int) < 1 + m9 + 1 by omega)
            refine ⟨_, rfl, .inl ⟨cell, rfl, cell, 4536, rfl, rfl, ⟨by decide, by decide⟩, _, rfl, _, _, rfl, rfl, _, _, rfl, rfl, (by show (0 : Int) < 1 + m9 + 1; omega), ?_⟩⟩
            exact ⟨some (97 + m7), cell / 4536 % (1 + m9 + 1), fun i e => by cases e; exact rl, fun _ => rfl, hs1, by omega, fun _ => rfl, rfl, rfl⟩
          | false =>
            refine iteF ?_
            refine ⟨_, rfl, .inl ⟨cell, rfl, cell, 4536, rfl, rfl, ⟨by decide, by decide⟩, _, 2, rfl, rfl, (by show (0 : Int) < 2; decide), rfl, _, rfl, ?_⟩⟩
            rw [int_eq]
            by_cases hl : cell / 4536 % 2 = 0
            · refine iteTe (decide_eq_true hl) ?_
              exact ⟨none, 0, fun i e => (nomatch e), fun e => (nomatch e), Int.le_refl _, by omega, fun e => by omega, rfl, rfl⟩
            · refine iteFe (decide_eq_false hl) ?_
              exact ⟨some (97 + m7), 0, fun i e => by cases e; exact rl, fun e => (nomatch e), Int.le_refl _, by omega, fun e => by omega, rfl, rfl⟩
        · rintro _ H3 ⟨lim, sh, hlim, hrl, h0, hsq, hsr, rfl, rfl⟩
          refine ⟨_, rfl, B.p, B.dx, _, rfl, x3.b.ob, bfs_no_submit _ _ _ _, _, rfl, _, rfl, _, rfl, _, rfl, _, rfl, _, rfl, rfl, rfl, _, B, h, sb, r, lim, 1 + m9, sh, rfl, x3.b.at_, binv, hlim, hrl, by omega, by omega, h0, hsq, hsr, fun F' H' B' Pr rp b1 rs ps so en tr nx => ?_⟩
          obtain ⟨F5, s5, x5, k5⟩ := x3.book so.same so.book
          refine ⟨_, rfl, W.w, _, rfl, x5.w.gO, _, rfl, _, rfl, _, rfl, _, rfl, _, rfl, _, rfl, _, rfl, _, W.lo, W.os, mkOd ((N : Int) + 1) h sb lim (1 + m9) sh, r, rfl, x5.w.o.at_, ok.inv.os, (fun t ht => ok.hk.o t.d (List.mem_map.mpr ⟨t, ht, rfl⟩)), (by show 0 ≤ 1 + m9; omega), (by show 1 + m9 ≤ 1000; omega), hlos, fun F6 H6 os6 p rp' s6 o6 en6 due => ?_⟩
          obtain ⟨F7, s7, x7, k7⟩ := x5.orders s6 o6
          rw [hnx] at en
          obtain ⟨erp, R7, eo7⟩ := enter_rel (w := W.lw) R ok.inv.os (by show 0 ≤ 1 + m9; omega) h0 (fun e => price_some (hrl e)) (fun y hy => by
            have := ok.nle.o y hy
            show y.num ≠ (N : Int) + 1
            omega) en en6
          subst erp
          have ok7 := ok.order (l := lastOf W.last rp.fills) (o := mkOd ((N : Int) + 1) h sb lim (1 + m9) sh) rfl hh en6 eo7
          obtain ⟨g1, g2, g3, g4, g5, g6⟩ := en6.hk ok.hk.o hh
          have erow : rp = ⟨(N : Int) + 1, h, sb, rp.fills, rp.rem, rp.rest⟩ := by
            obtain ⟨a1, a2, a3, a4, a5, a6⟩ := rp
            have g4 : a1 = (N : Int) + 1 := g4
            have g5 : a2 = h := g5
            have g6 : a3 = sb := g6
            subst g4 g5 g6
            rfl
          have reps7 := so.reps.imp (F1 := hide B.foot H3) (F' := F7) fun _ _ z => (z.to k5).mono s7
          rw [erow] at reps7
          refine ⟨_, _, _, _, hide B.foot H3, F7, B', { W with os := os6 }, rp.fills, rp.rem, rp.rest, Pr, p, ps, rs, b1, rfl, s5.trans s7,
            ⟨x7, s7 _ _ (k5 _ _ so.hp so.fp), reps7, so.len, due.to k7, R7, ok7, hh, g3, tr⟩, nx.trans (by rw [hnx]; omega), so.p, rfl⟩
    · rintro _ H3 ⟨v6, v8, v11, v12, F0, F1, B1, W1, fills, rem, left, Pr, p, ps, rs, b1, rfl, sF, S, e1, e2, e3⟩
      refine law_end (ta := tCons (tVar 3) (tCons (tVar 4) (tCons (tVar 5) tNil))) S rfl rfl (by rw [e3]; rfl) (by omega) (fun H' Qx _ q => ⟨_, rfl, _, rfl, _, rfl, q⟩) fun F' H' W' s x R ok ew => k F' H' B1 W' (sF.trans s) x R ok e1 e2 (ew.trans e3)
end
end K29
end

section
set_option Elab.async false
set_option maxRecDepth 100000
set_option maxHeartbeats 4000000
set_option linter.unusedVariables false
/-! the law: _law_cancel -/
namespace K29
open PySem L2
theorem LOk.rmS {N : Nat} {w : Lw} (o : LOk N w) (n : Int) : LOk N ⟨w.os, rmvS n w.stops, w.last⟩ :=
  ⟨⟨o.inv.os, o.inv.sp.sublist (List.filter_sublist.map _), fun s hs => o.inv.dj s (rmvS_num hs).1, fun s hs => o.inv.qty s (rmvS_num hs).1, by
    have h1 := o.inv.len
    have h2 : (rmvS n w.stops).length ≤ w.stops.length := List.length_filter_le _ _
    show w.os.length + (rmvS n w.stops).length ≤ N
    omega⟩, ⟨o.hk.o, fun s hs => o.hk.s s (rmvS_num hs).1⟩, o.nle.o, fun s hs => o.nle.s s (rmvS_num hs).1⟩
theorem LOk.rmO {N : Nat} {w : Lw} (o : LOk N w) (n : Int) : LOk N ⟨rmv n w.os, w.stops, w.last⟩ :=
  ⟨⟨⟨nd_filter o.inv.os.nd, fun u hu => o.inv.os.good u (mem_rmv.mp hu).1⟩, o.inv.sp, fun s hs u hu => o.inv.dj s hs u (mem_rmv.mp hu).1, o.inv.qty, by
    have h1 := o.inv.len
    have h2 : (rmv n w.os).length ≤ w.os.length := List.length_filter_le _ _
    show (rmv n w.os).length + w.stops.length ≤ N
    omega⟩, ⟨fun u hu => o.hk.o u (mem_rmv.mp hu).1, o.hk.s⟩, fun u hu => o.nle.o u (mem_rmv.mp hu).1, o.nle.s⟩
theorem Rel.rmO {b : Bk} {w : Lw} {t : Od} (R : Rel b w) (i : LInv w.os) (ht : t ∈ w.os) : Rel (rmB b t.buy t.num) ⟨rmv t.num w.os, w.stops, w.last⟩ := by
  refine ⟨fun s => ?_, R.stops, R.last⟩
  show (if s = t.buy then rmv t.num (b.L s) else b.L s) = srt s (rmv t.num w.os)
  have e : srt s (rmv t.num w.os) = rmv t.num (srt s w.os) := by
    unfold rmv
    exact srt_filter s _ w.os
  rw [e, R.L]
  by_cases h : s = t.buy
  · rw [if_pos h]
  · rw [if_neg h]
    have : s = !t.buy := bool_ne h
    rw [this]
    exact (rmv_none (other_of (x := t) i.nd ht rfl)).symm
theorem Rel.cut {b : Bk} {w : Lw} {t d : Od} (R : Rel b w) (i : LInv w.os) (ht : t ∈ w.os) (hb : d.buy = t.buy) (hp : d.pr = t.pr) : Rel (cutB b t.buy t.num d) ⟨setN t.num d w.os, w.stops, w.last⟩ := by
  refine ⟨fun s => ?_, R.stops, R.last⟩
  show (if s = t.buy then setN t.num d (b.L s) else b.L s) = srt s (setN t.num d w.os)
  have hg : ∀ x ∈ w.os, (if x.num = t.num then d else x).buy = x.buy ∧ (if x.num = t.num then d else x).pr = x.pr := fun x hx => by
    split
    · rename_i q
      have := uniq i.nd hx ht q
      rw [this]
      exact ⟨hb, hp⟩
    · exact ⟨rfl, rfl⟩
  have e : srt s (setN t.num d w.os) = setN t.num d (srt s w.os) := by
    unfold setN
    exact srt_map s _ w.os hg
  rw [e, R.L]
  by_cases h : s = t.buy
  · rw [if_pos h]
  · rw [if_neg h]
    have : s = !t.buy := bool_ne h
    rw [this]
    exact (setN_none (other_of (x := t) i.nd ht rfl)).symm
theorem LOk.cut {N : Nat} {w : Lw} {t d : Od} (o : LOk N w) (ht : t ∈ w.os) (hn : d.num = t.num) (hh : d.house = t.house) (g : Good d) : LOk N ⟨setN t.num d w.os, w.stops, w.last⟩ := by
  have mem : ∀ x ∈ setN t.num d w.os, (∃ y ∈ w.os, x.num = y.num ∧ x.house = y.house) ∧ Good x := fun x hx => by
    unfold setN at hx
    obtain ⟨y, hy, rfl⟩ := List.mem_map.mp hx
    split
    · exact ⟨⟨t, ht, hn, hh⟩, g⟩
    · exact ⟨⟨y, hy, rfl, rfl⟩, o.inv.os.good y hy⟩
  refine ⟨⟨⟨?_, fun x hx => (mem x hx).2⟩, o.inv.sp, fun s hs x hx => ?_, o.inv.qty, ?_⟩, ⟨fun x hx => ?_, o.hk.s⟩, fun x hx => ?_, o.nle.s⟩
  · show ((setN t.num d w.os).map (·.num)).Nodup
    rw [setN_nums hn]
    exact o.inv.os.nd
  · obtain ⟨⟨y, hy, e, _⟩, _⟩ := mem x hx
    rw [e]
    exact o.inv.dj s hs y hy
  · have h1 := o.inv.len
    show (setN t.num d w.os).length + w.stops.length ≤ N
    unfold setN
    rw [List.length_map]
    exact h1
  · obtain ⟨⟨y, hy, _, e⟩, _⟩ := mem x hx
    rw [e]
    exact o.hk.o y hy
  · obtain ⟨⟨y, hy, e, _⟩, _⟩ := mem x hx
    rw [e]
    exact o.nle.o y hy
/-- an order taken out comes in again -/
theorem LOk.again {N : Nat} {w : Lw} {t o : Od} {os' : List Od} {r : Bool} {rp : Rp} {l : Option Int} (k : LOk N w) (ht : t ∈ w.os) (hn : o.num = t.num) (hh : o.house = t.house) (en : LEnterR r (rmv t.num w.os) o os' rp) (eo : EnterOut o (rmv t.num w.os) os') : LOk N ⟨os', w.stops, l⟩ := by
  refine ⟨⟨eo.i, k.inv.sp, fun s hs u hu => ?_, k.inv.qty, ?_⟩, ⟨(en.hk (fun u hu => k.hk.o u (mem_rmv.mp hu).1) (by rw [hh]; exact k.hk.o t ht)).1, k.hk.s⟩, en.nk (fun u hu => k.nle.o u (mem_rmv.mp hu).1) (by rw [hn]; exact k.nle.o t ht), k.nle.s⟩
  · rcases eo.nums u hu with e | ⟨y, hy, e⟩
    · rw [e, hn]
      exact k.inv.dj s hs t ht
    · rw [← e]
      exact k.inv.dj s hs y (mem_rmv.mp hy).1
  · have h1 := eo.len
    have h2 := k.inv.len
    have h3 := rmv_len1 ht rfl
    show os'.length + w.stops.length ≤ N
    omega
section
variable {P : Program} {w : World} {K : PySem.W.Frag} {mg : Str → Option Value} {base : Heap} {A : Ad}
def spLCancel (A : Ad) : Sp := fun vs H Q _ => ∃ (F : Hp) (B : TB) (W : LW) (N : Nat) (cell : Int), vs = [.ref B.p, .ref W.w, .int cell] ∧ Both A F H B W ∧ Rel B.bk W.lw ∧ LOk N W.lw ∧ N ≤ 28 ∧ 0 < W.os.length + W.ss.length ∧
  ∀ F' H' B' W', Same F F' → Both A F' H' B' W' → Rel B'.bk W'.lw → LOk N W'.lw → B'.next = B.next → B'.p = B.p → W'.w = W.w → Q (.bl true) H'
theorem ok_law_cancel (T : Txt K mg A) : FnOk P w K mg base CX0 3 A.f_law_cancel A.d_law_cancel ["_law_book", "_law_world", "_law_cell"] (spLCancel A) := by
  refine T.F_law_cancel.ok sc_law_cancel (fun vs H Q E h => ?_) (fun cdv Ar outer s H vs Q E hr h => ?_)
  · obtain ⟨_, _, _, _, _, rfl, _⟩ := h
    rfl
  · obtain ⟨F, B, W, N, cell, rfl, x, R, ok, hN, hpos, k⟩ := h
    refine ⟨_, (pss_cons (ps_set (i := 3) sc_law_cancel.nd rfl (Or.inl rfl) (pe_dget (hu_of hr) (pv 1) pe_str (fun _ _ => rfl)))
      (pss_cons (ps_set (i := 4) sc_law_cancel.nd rfl (Or.inl rfl) (pe_dget (hu_of hr) (pv 1) pe_str (fun _ _ => rfl)))
      (pss_cons (ps_set (i := 5) sc_law_cancel.nd rfl (Or.inl rfl) (pe_op op_mod (pe_callTy call_int1 (by rfl) T.z_int PyProof.Rows.boot_int (pa_cons (pv 2) pa_nil)) (pe_op op_add (pe_callB call_len_seq (by rfl) T.z_len PySem.boot_len (pa_cons (pv 3) pa_nil)) (pe_callB call_len_seq (by rfl) T.z_len PySem.boot_len (pa_cons (pv 4) pa_nil)))))
      (pss_cons (ps_if (pt_cmpR op_lt (pv 5) (pe_callB call_len_seq (by rfl) T.z_len PySem.boot_len (pa_cons (pv 3) pa_nil)) (nomark _)) (pss_cons (ps_set (i := 6) sc_law_cancel.nd rfl (Or.inl rfl) (pe_ix ix_list (pv 3) (pv 5) (fun _ _ => rfl)))
      (pss_cons (ps_expr (pe_bm PySem.F.plainAttrs_list PySem.F.slot_list_remove PySem.F.type_list_remove (mt_removeD (room65 hr)) (pv 3) (pa_cons (pv 6) pa_nil)))
      (pss_one (ps_ret (pe_cmpR op_eq (pe_meth (pv 0) T.cB T.h_Bcancel (ok_cancel T) (hr.mono (by decide)) T.b_Bcancel .nil pass0 (pa_cons (pe_ix ix_tup (pv 6) pe_int (fun _ _ => rfl)) (pa_cons (pe_ix ix_tup (pv 6) pe_int (fun _ _ => rfl)) pa_nil))) (pe_ix ix_tup (pv 6) pe_int (fun _ _ => rfl)) (nomark _)))))) pss_nil)
      (pss_cons (ps_set (i := 7) sc_law_cancel.nd rfl (Or.inl rfl) (pe_ix ix_list (pv 4) (pe_op op_sub (pv 5) (pe_callB call_len_seq (by rfl) T.z_len PySem.boot_len (pa_cons (pv 3) pa_nil))) (fun _ _ => rfl)))
      (pss_cons (ps_expr (pe_bm PySem.F.plainAttrs_list PySem.F.slot_list_remove PySem.F.type_list_remove (mt_removeD (room65 hr)) (pv 4) (pa_cons (pv 7) pa_nil)))
      (pss_one (ps_ret (pe_cmpR op_eq (pe_meth (pv 0) T.cB T.h_Bcancel (ok_cancel T) (hr.mono (by decide)) T.b_Bcancel .nil pass0 (pa_cons (pe_ix ix_list (pv 7) pe_int (fun _ _ => rfl)) (pa_cons (pe_ix ix_list (pv 7) pe_int (fun _ _ => rfl)) pa_nil))) (pe_ix ix_list (pv 7) pe_int (fun _ _ => rfl)) (nomark _)))))))))), ?_⟩
    have c := x.w
    have hks : ∀ u ∈ W.ss, hOk u.d.house := fun u hu => ok.hk.s u.d (List.mem_map.mpr ⟨u, hu, rfl⟩)
    have hkl : ∀ t ∈ W.os, hOk t.d.house := fun u hu => ok.hk.o u.d (List.mem_map.mpr ⟨u, hu, rfl⟩)
    have binv : BInv 1000 B.bk := R.binv (ok.inv.mono (by omega))
    have l1 : (W.ss.map TP.ref).length = W.ss.length := List.length_map ..
    have l2 : (W.os.map TL.ref).length = W.os.length := List.length_map ..
    refine ⟨_, rfl, W.w, _, rfl, c.gS, _, rfl, W.w, _, rfl, c.gO, _, rfl, .inl ⟨cell, rfl, _, rfl, _, _, rfl, .inl (SqL.of c.ls), _, rfl, _, _, rfl, .inl (SqL.of c.o.l), _, _, rfl, rfl, _, _, rfl, rfl, ?_, ?_⟩⟩
    · rw [l1, l2]
      omega
    rw [l1, l2]
    have hp0 := Int.emod_nonneg cell (show ((W.ss.length : Int) + W.os.length) ≠ 0 by omega)
    have hp1 := Int.emod_lt_of_pos cell (show 0 < ((W.ss.length : Int) + W.os.length) by omega)
    generalize hpl : cell % ((W.ss.length : Int) + W.os.length) = pl at hp0 hp1
    obtain ⟨j, rfl⟩ : ∃ j : Nat, pl = j := ⟨pl.toNat, by omega⟩
    refine ⟨_, rfl, _, rfl, _, _, rfl, .inl (SqL.of c.ls), _, _, rfl, rfl, _, rfl, ?_⟩
    rw [l1]
    by_cases hj : j < W.ss.length
    · refine iteTe (decide_eq_true (by omega)) ?_
      obtain ⟨t, ht⟩ : ∃ t, W.ss[j]? = some t := ⟨_, List.getElem?_eq_getElem hj⟩
      have htm := List.mem_of_getElem? ht
      have hta := c.s t htm
      have hat : atI (W.ss.map TP.ref) (cell % ((W.ss.length : Int) + W.os.length)) = some (V.ref t.a) := by
        rw [hpl]
        exact atI_nat (by rw [List.getElem?_map, ht]; rfl)
      refine ⟨_, rfl, _, rfl, _, _, _, _, rfl, rfl, SqL.of c.ls, hat, ?_⟩
      have spw : (W.ss.map (·.d.num)).Pairwise (· < ·) := by
        rw [map_numS]
        exact ok.inv.sp
      obtain ⟨L1, L2, eS⟩ := List.append_of_mem htm
      have mem3 : ∀ t ∈ L1 ++ L2, t ∈ W.ss := fun t ht => by
        rw [eS]
        rcases List.mem_append.mp ht with z | z
        · exact List.mem_append_left _ z
        · exact List.mem_append_right _ (List.mem_cons_of_mem _ z)
      have esp : (L1 ++ L2).map (·.d) = rmvS t.d.num (W.ss.map (·.d)) := by
        have h := spw
        rw [eS] at h ⊢
        exact rmvS_at h
      refine ⟨_, rfl, .inl ⟨rfl, _, SqL.of c.ls⟩, _, rfl, ?_⟩
      dsimp only [tNil]
      refine rem_stop (L1 := L1) (L2 := L2) (t := t) (by rw [← eS]; exact c.ls) (by rw [← eS]; exact c.s) (by rw [← eS]; exact spw) (by rw [← eS]; exact hks) ?_
      have w3 := c.at_.partS mem3
      obtain ⟨F3, s3, x3, _⟩ := x.world (Same.refl _) w3
      have hta3 : upd H W.ls (.lst ((L1 ++ L2).map TP.ref)) t.a = some (.tup (srow t.d)) := (upd_ne (ne_of c.ls hta lst_tup).symm).trans hta
      generalize upd H W.ls (.lst ((L1 ++ L2).map TP.ref)) = H3 at x3 hta3
      have ebs : B.ss.map (·.d) = W.ss.map (·.d) := R.stops
      obtain ⟨u, hu, eu⟩ : ∃ u ∈ B.ss, u.d = t.d := by
        have : t.d ∈ B.ss.map (·.d) := by rw [ebs]; exact List.mem_map.mpr ⟨t, htm, rfl⟩
        obtain ⟨u, hu, e⟩ := List.mem_map.mp this
        exact ⟨u, hu, e⟩
      have bnd : (B.ss.map (·.d.num)).Nodup := by
        have h1 : B.ss.map (·.d.num) = W.ss.map (·.d.num) := by
          rw [map_numS, ← ebs, List.map_map]
          rfl
        rw [h1]
        exact spw.imp fun h => by omega
      have nbt : ¬ B.foot t.a := fun q => x.dj _ q (.inr (.inr (.inr ⟨t, htm, rfl⟩)))
      refine ⟨_, rfl, B.p, B.dx, _, rfl, x3.b.ob, bfs_no_cancel _ _ _ _, _, rfl, _, _, _, _, rfl, rfl, SqT.of hta3, at_of (j := 0) rfl rfl, _, rfl, _, _, _, _, rfl, rfl, SqT.of hta3, at_of (j := 1) rfl rfl, _, B, t.d.num, t.d.house, rfl, x3.b.at_, binv, .inl ⟨u, hu, by rw [eu], by rw [eu], fun v hv e => inj_nd bnd hv hu (by rw [e, eu]), fun H' B' b' bk nx pp => ?_⟩⟩
      obtain ⟨F4, s4, x4, k4⟩ := x3.book (Same.refl _) b'
      have hta4 : H' t.a = some (.tup (srow t.d)) := b'.same _ _ (by rw [hide_out nbt]; exact hta3)
      refine ⟨_, rfl, _, _, _, _, rfl, rfl, SqT.of hta4, at_of (j := 5) rfl rfl, rfl, ?_⟩
      rw [int_eq, eu, decide_eq_true rfl]
      have elw : ({ W with ss := L1 ++ L2 } : LW).lw = ⟨W.lw.os, rmvS t.d.num W.lw.stops, W.lw.last⟩ := by
        show (⟨_, (L1 ++ L2).map (·.d), _⟩ : Lw) = _
        rw [esp]
        rfl
      refine k F4 H' B' { W with ss := L1 ++ L2 } (s3.trans s4) x4 ?_ ?_ nx pp rfl
      · rw [bk, elw]
        exact ⟨R.L, by show rmvS _ _ = rmvS _ _; rw [R.stops], R.last⟩
      · rw [elw]
        exact ok.rmS _
    · refine iteFe (decide_eq_false (by omega)) ?_
      obtain ⟨i, rfl⟩ : ∃ i, j = W.ss.length + i := ⟨j - W.ss.length, by omega⟩
      have hi : i < W.os.length := by omega
      obtain ⟨t, ht⟩ : ∃ t, W.os[i]? = some t := ⟨_, List.getElem?_eq_getElem hi⟩
      have htm := List.mem_of_getElem? ht
      have hta := c.o.o t htm
      have hat : atI (W.os.map TL.ref) (cell % ((W.ss.length : Int) + W.os.length) - W.ss.length) = some (V.ref t.a) := by
        rw [hpl, show ((W.ss.length + i : Nat) : Int) - (W.ss.length : Int) = (i : Int) by omega]
        exact atI_nat (by rw [List.getElem?_map, ht]; rfl)
      refine ⟨_, rfl, _, rfl, _, rfl, _, _, rfl, .inl (SqL.of c.ls), _, _, rfl, rfl, _, _, _, _, rfl, rfl, SqL.of c.o.l, (by
        rw [l1]
        exact hat), ?_⟩
      have nd : (W.os.map (·.d.num)).Nodup := by
        rw [map_num]
        exact ok.inv.os.nd
      have htd : t.d ∈ W.lw.os := List.mem_map.mpr ⟨t, htm, rfl⟩
      obtain ⟨L1, L2, eS⟩ := List.append_of_mem htm
      have mem3 : ∀ t ∈ L1 ++ L2, t ∈ W.os := fun t ht => by
        rw [eS]
        rcases List.mem_append.mp ht with z | z
        · exact List.mem_append_left _ z
        · exact List.mem_append_right _ (List.mem_cons_of_mem _ z)
      have esp : (L1 ++ L2).map (·.d) = rmv t.d.num (W.os.map (·.d)) := by
        have h := nd
        rw [eS] at h ⊢
        exact rmv_at h
      refine ⟨_, rfl, .inl ⟨rfl, _, SqL.of c.o.l⟩, _, rfl, ?_⟩
      dsimp only [tNil]
      refine rem_ord (L1 := L1) (L2 := L2) (t := t) (by rw [← eS]; exact c.o) (by rw [← eS]; exact nd) (by rw [← eS]; exact hkl) ?_
      have o3 := c.o.at_.part mem3
      obtain ⟨F3, s3, x3, _⟩ := x.orders (Same.refl _) o3
      have hta3 : upd H W.lo (.lst ((L1 ++ L2).map TL.ref)) t.a = some (.lst (lrow t.d)) := (upd_ne (c.o.ne t htm)).trans hta
      generalize upd H W.lo (.lst ((L1 ++ L2).map TL.ref)) = H3 at x3 hta3
      have nbt : ¬ B.foot t.a := fun q => x.dj _ q (.inr (.inr (.inl (.inr ⟨t, htm, rfl⟩))))
      obtain ⟨u, hu, eu⟩ : ∃ u ∈ B.os t.d.buy, u.d = t.d := by
        have : t.d ∈ B.bk.L t.d.buy := by rw [R.L]; exact (mem_srt _).mpr ⟨htd, rfl⟩
        exact List.mem_map.mp this
      refine ⟨_, rfl, B.p, B.dx, _, rfl, x3.b.ob, bfs_no_cancel _ _ _ _, _, rfl, _, _, _, _, rfl, rfl, SqL.of hta3, at_of (j := 0) rfl rfl, _, rfl, _, _, _, _, rfl, rfl, SqL.of hta3, at_of (j := 1) rfl rfl, _, B, t.d.num, t.d.house, rfl, x3.b.at_, binv, .inr ⟨fun v hv e => ?_, t.d.buy, u, hu, by rw [eu], by rw [eu], by rw [eu], fun r v hv e => R.only ok.inv hu r v hv (by rw [e, eu]), fun H' B' b' bk nx pp => ?_⟩⟩
      · have : v.d ∈ W.lw.stops := by
          rw [← R.stops]
          exact List.mem_map.mpr ⟨v, hv, rfl⟩
        exact ok.inv.dj v.d this t.d htd e.symm
      obtain ⟨F4, s4, x4, k4⟩ := x3.book (Same.refl _) b'
      have hta4 : H' t.a = some (.lst (lrow t.d)) := b'.same _ _ (by rw [hide_out nbt]; exact hta3)
      refine ⟨_, rfl, _, _, _, _, rfl, rfl, SqL.of hta4, at_of (j := 4) rfl rfl, rfl, ?_⟩
      rw [int_eq, eu, decide_eq_true rfl]
      have elw : ({ W with os := L1 ++ L2 } : LW).lw = ⟨rmv t.d.num W.lw.os, W.lw.stops, W.lw.last⟩ := by
        show (⟨(L1 ++ L2).map (·.d), _, _⟩ : Lw) = _
        rw [esp]
        rfl
      refine k F4 H' B' { W with os := L1 ++ L2 } (s3.trans s4) x4 ?_ ?_ nx pp rfl
      · rw [bk, elw]
        exact R.rmO ok.inv.os htd
      · rw [elw]
        exact ok.rmO _
end
end K29
end

section
set_option Elab.async false
set_option maxRecDepth 100000
set_option maxHeartbeats 4000000
set_option linter.unusedVariables false
/-! the law: _law_amend -/
namespace K29
open PySem L2
section
variable {P : Program} {w : World} {K : PySem.W.Frag} {mg : Str → Option Value} {base : Heap} {A : Ad}
def spLAmend (A : Ad) : Sp := fun vs H Q _ => ∃ (F : Hp) (B : TB) (W : LW) (N : Nat) (cell : Int), vs = [.ref B.p, .ref W.w, .int cell] ∧ Both A F H B W ∧ Rel B.bk W.lw ∧ LOk N W.lw ∧ N ≤ 28 ∧ 0 < W.os.length ∧
  ∀ F' H' B' W', Same F F' → Both A F' H' B' W' → Rel B'.bk W'.lw → LOk N W'.lw → B'.next = B.next → B'.p = B.p → W'.w = W.w → Q (.bl true) H'
theorem ok_law_amend (T : Txt K mg A) : FnOk P w K mg base CX0 8 A.f_law_amend A.d_law_amend ["_law_book", "_law_world", "_law_cell"] (spLAmend A) := by
  refine T.F_law_amend.ok sc_law_amend (fun vs H Q E h => ?_) (fun cdv Ar outer s H vs Q E hr h => ?_)
  · obtain ⟨_, _, _, _, _, rfl, _⟩ := h
    rfl
  · obtain ⟨F, B, W, N, cell, rfl, x, R, ok, hN, hpos, k⟩ := h
    refine ⟨_, (pss_cons (ps_set (i := 3) sc_law_amend.nd rfl (Or.inl rfl) (pe_dget (hu_of hr) (pv 1) pe_str (fun _ _ => rfl)))
      (pss_cons (ps_set (i := 4) sc_law_amend.nd rfl (Or.inl rfl) (pe_ix ix_list (pv 3) (pe_op op_mod (pe_callTy call_int1 (by rfl) T.z_int PyProof.Rows.boot_int (pa_cons (pv 2) pa_nil)) (pe_callB call_len_seq (by rfl) T.z_len PySem.boot_len (pa_cons (pv 3) pa_nil))) (fun _ _ => rfl)))
      (pss_cons (ps_set (i := 5) sc_law_amend.nd rfl (Or.inl rfl) (pe_op op_add pe_int (pe_op op_mod (pe_op op_fdiv (pe_callTy call_int1 (by rfl) T.z_int PyProof.Rows.boot_int (pa_cons (pv 2) pa_nil)) pe_int) pe_int)))
      (pss_cons (ps_set (i := 6) sc_law_amend.nd rfl (Or.inl rfl) (pe_op op_add pe_int (pe_op op_mod (pe_op op_fdiv (pe_callTy call_int1 (by rfl) T.z_int PyProof.Rows.boot_int (pa_cons (pv 2) pa_nil)) pe_int) pe_int)))
      (pss_cons (ps_set (i := 7) sc_law_amend.nd rfl (Or.inl rfl) (pe_meth (pv 0) T.cB T.h_Bamend (ok_amend T) (hr.mono (by decide)) T.b_Bamend .nil pass0 (pa_cons (pe_ix ix_list (pv 4) pe_int (fun _ _ => rfl)) (pa_cons (pe_ix ix_list (pv 4) pe_int (fun _ _ => rfl)) (pa_cons (pv 5) (pa_cons (pv 6) pa_nil))))))
      (Evl.pss_cut (ps_if (PW.pt (pw_and (pt_cmpR op_eq (pv 5) (pe_ix ix_list (pv 4) pe_int (fun _ _ => rfl)) (nomark _)) (pw_and1 (pt_cmpR op_le (pv 6) (pe_ix ix_list (pv 4) pe_int (fun _ _ => rfl)) (nomark _))))) (pss_cons (ps_asg (pv 6) (pg_sub (pv 4) pe_int set_list))
      (pss_cons (ps_asg (pe_callB (call_min2 rfl) (by rfl) T.z_min PyProof.Rows.boot_min (pa_cons (pe_ix ix_list (pv 4) pe_int (fun _ _ => rfl)) (pa_cons (pv 6) pa_nil))) (pg_sub (pv 4) pe_int set_list))
      (pss_one (ps_ret (pe_cmpR (op_eqD hr.units) (pe_call (ok_law_told T) (hr.mono (by decide)) (by rfl) T.g_law_told T.F_law_told.kp T.b_law_told .nil pass0 (pa_cons (pv 7) pa_nil)) (pe_lst (pa_cons (pe_tup (pa_cons (pe_ix ix_list (pv 4) pe_int (fun _ _ => rfl)) (pa_cons (pe_ix ix_list (pv 4) pe_int (fun _ _ => rfl)) (pa_cons (pe_ix ix_list (pv 4) pe_int (fun _ _ => rfl)) (pa_cons (pe_lst pa_nil) (pa_cons (pe_lst pa_nil) (pa_cons (pv 6) pa_nil))))))) pa_nil)) (nomark _)))))) pss_nil)
      (pss_cons (ps_expr (pe_bm PySem.F.plainAttrs_list PySem.F.slot_list_remove PySem.F.type_list_remove (mt_removeD (room65 hr)) (pv 3) (pa_cons (pv 4) pa_nil)))
      (pss_cons (ps_set (i := 8) sc_law_amend.nd rfl (Or.inl rfl) (pe_call (ok_law_enter T) (hr.mono (by decide)) (by rfl) T.g_law_enter T.F_law_enter.kp T.b_law_enter .nil pass0 (pa_cons (pv 3) (pa_cons (pe_ix ix_list (pv 4) pe_int (fun _ _ => rfl)) (pa_cons (pe_ix ix_list (pv 4) pe_int (fun _ _ => rfl)) (pa_cons (pe_ix ix_list (pv 4) pe_int (fun _ _ => rfl)) (pa_cons (pv 5) (pa_cons (pv 6) (pa_cons pe_str (pa_cons (pe_callB (call_min2 rfl) (by rfl) T.z_min PyProof.Rows.boot_min (pa_cons (pe_ix ix_list (pv 4) pe_int (fun _ _ => rfl)) (pa_cons (pv 6) pa_nil))) pa_nil))))))))))
      (pss_cons (ps_dput (hu_of hr) (pv 1) pe_str (pe_call (ok_law_last T) (hr.mono (by decide)) (by rfl) T.g_law_last T.F_law_last.kp T.b_law_last .nil pass0 (pa_cons (pe_dget (hu_of hr) (pv 1) pe_str (fun _ _ => rfl)) (pa_cons (pv 8) pa_nil))) rfl)
      (pss_one (ps_ret (pe_cmpR (op_eqD hr.units) (pe_call (ok_law_told T) (hr.mono (by decide)) (by rfl) T.g_law_told T.F_law_told.kp T.b_law_told .nil pass0 (pa_cons (pv 7) pa_nil)) (pe_op op_cat (pe_lst (pa_cons (pe_op op_catT (pe_tup (pa_cons (pe_ix ix_list (pv 4) pe_int (fun _ _ => rfl)) (pa_cons (pe_ix ix_list (pv 4) pe_int (fun _ _ => rfl)) (pa_cons (pe_ix ix_list (pv 4) pe_int (fun _ _ => rfl)) pa_nil)))) (pv 8)) pa_nil)) (pe_call (ok_law_triggered T) (hr.mono (by decide)) (by rfl) T.g_law_triggered T.F_law_triggered.kp T.b_law_triggered .nil pass0 (pa_cons (pv 1) pa_nil))) (nomark _))))))))))))), ?_⟩
    have c := x.w
    have hkl : ∀ t ∈ W.os, hOk t.d.house := fun u hu => ok.hk.o u.d (List.mem_map.mpr ⟨u, hu, rfl⟩)
    have binv : BInv 1000 B.bk := R.binv (ok.inv.mono (by omega))
    have l2 : (W.os.map TL.ref).length = W.os.length := List.length_map ..
    have hp0 := Int.emod_nonneg cell (show (W.os.length : Int) ≠ 0 by omega)
    have hp1 := Int.emod_lt_of_pos cell (show 0 < (W.os.length : Int) by omega)
    obtain ⟨i, hi⟩ : ∃ i : Nat, cell % (W.os.length : Int) = i := ⟨(cell % (W.os.length : Int)).toNat, by omega⟩
    have hil : i < W.os.length := by omega
    obtain ⟨t, ht⟩ : ∃ t, W.os[i]? = some t := ⟨_, List.getElem?_eq_getElem hil⟩
    have htm := List.mem_of_getElem? ht
    have hta := c.o.o t htm
    have hat : atI (W.os.map TL.ref) (cell % (W.os.length : Int)) = some (V.ref t.a) := by
      rw [hi]
      exact atI_nat (by rw [List.getElem?_map, ht]; rfl)
    refine ⟨_, rfl, W.w, _, rfl, c.gO, ?_⟩
    refine ⟨_, rfl, _, rfl, .inl ⟨cell, rfl, _, rfl, _, _, rfl, .inl (SqL.of c.o.l), _, _, rfl, rfl, (by rw [l2]; omega), _, _, _, _, rfl, rfl, SqL.of c.o.l, (by rw [l2]; exact hat), ?_⟩⟩
    have hl1 := Int.emod_nonneg (cell / 24) (show (7 : Int) ≠ 0 by decide)
    have hl2 := Int.emod_lt_of_pos (cell / 24) (show (0 : Int) < 7 by decide)
    refine ⟨_, rfl, .inl ⟨cell, rfl, cell, 24, rfl, rfl, ⟨by decide, by decide⟩, _, 7, rfl, rfl, (by show (0 : Int) < 7; decide), _, _, rfl, rfl, ?_⟩⟩
    generalize hm7 : cell / 24 % 7 = m7 at hl1 hl2
    have hq1 := Int.emod_nonneg (cell / 168) (show (12 : Int) ≠ 0 by decide)
    have hq2 := Int.emod_lt_of_pos (cell / 168) (show (0 : Int) < 12 by decide)
    refine ⟨_, rfl, .inl ⟨cell, rfl, cell, 168, rfl, rfl, ⟨by decide, by decide⟩, _, 12, rfl, rfl, (by show (0 : Int) < 12; decide), _, _, rfl, rfl, ?_⟩⟩
    generalize hm9 : cell / 168 % 12 = m9 at hq1 hq2
    have nd : (W.os.map (·.d.num)).Nodup := by
      rw [map_num]
      exact ok.inv.os.nd
    have htd : t.d ∈ W.lw.os := List.mem_map.mpr ⟨t, htm, rfl⟩
    have gt := ok.inv.os.good t.d htd
    have hpr : t.d.price = some t.d.pr := gt.2.2.2
    obtain ⟨u, hu, eu⟩ : ∃ u ∈ B.os t.d.buy, u.d = t.d := by
      have : t.d ∈ B.bk.L t.d.buy := by rw [R.L]; exact (mem_srt _).mpr ⟨htd, rfl⟩
      exact List.mem_map.mp this
    have nbt : ¬ B.foot t.a := fun q => x.dj _ q (.inr (.inr (.inl (.inr ⟨t, htm, rfl⟩))))
    obtain ⟨L1, L2, eS⟩ := List.append_of_mem htm
    have hlow : W.os.length ≤ 28 := by
      have h1 := ok.inv.len
      have h2 : W.lw.os.length = W.os.length := List.length_map ..
      omega
    have dpr : ∀ q : Int, decide (V.int q = pV t.d.price) = decide (q = t.d.pr) := fun q => by
      rw [hpr]
      exact int_eq q t.d.pr
    refine ⟨_, rfl, B.p, B.dx, _, rfl, x.b.ob, bfs_no_amend _ _ _ _, _, rfl, _, _, _, _, rfl, rfl, SqL.of hta, at_of (j := 0) rfl rfl, _, rfl, _, _, _, _, rfl, rfl, SqL.of hta, at_of (j := 1) rfl rfl, _, rfl, _, rfl, _, B, u, 97 + m7, 1 + m9, (by rw [eu]; rfl), x.b.at_, binv, (by rw [eu]; exact hu), fun r v hv e => R.only ok.inv hu r v hv e, ⟨by omega, by omega⟩, ⟨by omega, by omega⟩, by omega, ?_, ?_⟩
    · rw [eu]
      rintro ⟨hc1, hc2⟩ F1 H1 B1 Pr ps so bk nx
      obtain ⟨F4, s4, x4, k4⟩ := x.book so.same so.book
      have c4 := x4.w
      have ot4 := c4.o.o t htm
      refine ⟨fun _ _ => False, ⟨_, rfl, _, rfl, _, _, _, _, rfl, rfl, SqL.of ot4, at_of (j := 3) rfl rfl, (by rw [hpr]; rfl), _, rfl, ?_⟩, fun _ _ z => z.elim⟩
      rw [dpr]
      refine iteTe (decide_eq_true hc1) ?_
      refine ⟨_, rfl, _, rfl, _, _, _, _, rfl, rfl, SqL.of ot4, at_of (j := 4) rfl rfl, _, _, rfl, rfl, _, rfl, ?_⟩
      refine iteTe (decide_eq_true hc2) ?_
      refine ⟨_, rfl, _, rfl, t.a, _, _, 4, rfl, rfl, ot4, rfl, ?_⟩
      rw [lrow_left]
      refine ⟨_, rfl, _, _, _, _, rfl, rfl, SqL.of upd_same, at_of (j := 5) rfl rfl, _, rfl, _, _, rfl, _, rfl, t.a, _, _, 5, rfl, rfl, upd_same, rfl, ?_⟩
      rw [lrow_vis, upd_upd]
      rw [show (⟨t.d.num, t.d.house, t.d.buy, t.d.price, 1 + m9, t.d.shown, if 1 + m9 < t.d.vis then 1 + m9 else t.d.vis⟩ : Od) = t.d.cut (1 + m9) from rfl]
      have o4 : OrdAt (hide (oft W.lo W.os) H1) H1 W.lo (L1 ++ t :: L2) := by
        rw [← eS]
        exact c4.o.at_
      have nd' := nd
      rw [eS] at nd'
      obtain ⟨F5, s5, x5, _⟩ := x4.orders (Same.refl _) (o4.set nd' (t.d.cut (1 + m9)))
      have ot5 : upd H1 t.a (.lst (lrow (t.d.cut (1 + m9)))) t.a = some (.lst (lrow (t.d.cut (1 + m9)))) := upd_same
      generalize upd H1 t.a (.lst (lrow (t.d.cut (1 + m9)))) = H5 at x5 ot5
      refine ⟨_, rfl, hide B.foot H, F5, fun a => B1.foot a ∨ ({ W with os := L1 ++ { t with d := t.d.cut (1 + m9) } :: L2 } : LW).foot a, Pr, ps, _, rfl, x5.same, (s5 _ _ (k4 _ _ so.hp so.fp)), so.reps.imp fun _ _ z => (z.to k4).mono s5, fun a ha => ?_, by have := so.len; omega, fun F6 H6 q1 sF6 s6 sFH6 av6 dp6 => ?_⟩
      · rcases ha with z | z
        · exact ⟨x5.ob a z, x5.b.has z⟩
        · exact ⟨x5.ow a z, x5.w.has z⟩
      have x6 : Both A F6 H6 B1 { W with os := L1 ++ { t with d := t.d.cut (1 + m9) } :: L2 } := ⟨sFH6, x5.b.sameH s6, x5.w.sameH s6, fun a ha => av6 a (.inl ha), fun a ha => av6 a (.inr ha), x5.dj⟩
      have ot6 := s6 _ _ ot5
      refine ⟨_, rfl, _, _, _, _, rfl, rfl, SqL.of ot6, at_of (j := 0) rfl rfl, _, rfl, _, _, _, _, rfl, rfl, SqL.of ot6, at_of (j := 1) rfl rfl, _, rfl, _, _, _, _, rfl, rfl, SqL.of ot6, at_of (j := 2) rfl rfl, Nat.zero_le _, fun fl hfl => ⟨Nat.zero_le _, fun rm hrm => ⟨_, rfl, (by show 6 ≤ sizeLine; decide), fun a3 ha3 => ⟨(by show 1 ≤ sizeLine; decide), fun a4 ha4 => ?_⟩⟩⟩⟩
      have x10 := (((x6.new (o := .lst []) hfl).new (o := .lst []) hrm).new (o := .tup [.int t.d.num, .str t.d.house, .str (sd t.d.buy), .ref fl, .ref rm, .int (1 + m9)]) ha3).new (o := .lst [.ref a3]) ha4
      have n1 := Same.newH (o := .lst []) hfl
      have n2 := Same.newH (o := .lst []) hrm
      have n3 := Same.newH (o := .tup [.int t.d.num, .str t.d.house, .str (sd t.d.buy), .ref fl, .ref rm, .int (1 + m9)]) ha3
      have n4 := Same.newH (o := .lst [.ref a3]) ha4
      have dq := dp_mono (((((sFH6.trans n1).trans n2).trans n3).trans n4)) dp6
      have hfl4 := n4 _ _ (n3 _ _ (n2 _ _ upd_same))
      have hrm4 := n4 _ _ (n3 _ _ upd_same)
      have h34 := n4 _ _ upd_same
      have dr := Dp.lst (K := K) (SqL.of (K := K) (upd_same (H := upd (upd (upd H6 fl (.lst [])) rm (.lst [])) a3 (.tup [.int t.d.num, .str t.d.house, .str (sd t.d.buy), .ref fl, .ref rm, .int (1 + m9)])) (o := .lst [.ref a3]) (a := a4))) (.cons (Dp.tup (SqT.of h34) (.cons (.int t.d.num) (.cons (.str t.d.house) (.cons (.str (sd t.d.buy)) (.cons (.lst (SqL.of hfl4) .nil) (.cons (.lst (SqL.of hrm4) .nil) (.cons (.int (1 + m9)) .nil))))))) .nil)
      have lay : Lay 4 (.list [rdata ⟨t.d.num, t.d.house, t.d.buy, [], [], 1 + m9⟩]) := .list (.cons (lay_rdata (hkl t htm) fun f hf => nomatch hf) .nil)
      refine ⟨_, _, dq, dr, lay.shaped (by decide), lay.shaped (by decide), ?_⟩
      have eeq : PyData.eqv (.list (List.map rdata [⟨t.d.num, t.d.house, t.d.buy, [], [], 1 + m9⟩])) (.list [.tuple [.int t.d.num, .str t.d.house, .str (sd t.d.buy), .list [], .list [], .int (1 + m9)]]) = true := SeqAt.eqv_refl _ lay.can
      rw [show PyData.eqv _ _ = true from eeq]
      have elw : ({ W with os := L1 ++ { t with d := t.d.cut (1 + m9) } :: L2 } : LW).lw = ⟨setN t.d.num (t.d.cut (1 + m9)) W.lw.os, W.lw.stops, W.lw.last⟩ := by
        show (⟨(L1 ++ { t with d := t.d.cut (1 + m9) } :: L2).map (·.d), _, _⟩ : Lw) = _
        rw [setN_L nd', ← eS]
        rfl
      have gcut : Good (t.d.cut (1 + m9)) := by
        have h1 := minI_le t.d.vis (1 + m9)
        have h2 := minI_pos (a := t.d.vis) (b := 1 + m9) (by have := gt.1; omega) (by omega)
        exact ⟨by show 1 ≤ minI t.d.vis (1 + m9); omega, h1.2, gt.2.2.1, hpr⟩
      refine k F6 _ B1 { W with os := L1 ++ { t with d := t.d.cut (1 + m9) } :: L2 } ((s4.trans s5).trans sF6) x10 ?_ ?_ nx so.p rfl
      · rw [bk, elw]
        exact R.cut ok.inv.os htd rfl rfl
      · rw [elw]
        exact ok.cut htd rfl rfl gcut
    · rw [eu]
      intro hn F1 H1 B1 Pr rp b1 rs ps so en tr nx
      obtain ⟨F4, s4, x4, k4⟩ := x.book so.same so.book
      have c4 := x4.w
      have ot4 := c4.o.o t htm
      refine ⟨fun σ' H'' => σ' = [some (.ref B.p), some (.ref W.w), some (.int cell), some (.ref W.lo), some (.ref t.a), some (.int (97 + m7)), some (.int (1 + m9)), some (.ref Pr), none] ∧ H'' = H1, ?_, ?_⟩
      · refine ⟨_, rfl, _, rfl, _, _, _, _, rfl, rfl, SqL.of ot4, at_of (j := 3) rfl rfl, (by rw [hpr]; rfl), _, rfl, ?_⟩
        rw [dpr]
        by_cases hc1 : 97 + m7 = t.d.pr
        case neg =>
          refine iteFe (decide_eq_false hc1) (iteF ?_)
          exact ⟨rfl, rfl⟩
        refine iteTe (decide_eq_true hc1) ?_
        refine ⟨_, rfl, _, rfl, _, _, _, _, rfl, rfl, SqL.of ot4, at_of (j := 4) rfl rfl, _, _, rfl, rfl, _, rfl, ?_⟩
        refine iteFe (decide_eq_false fun hc2 => hn ⟨hc1, hc2⟩) ?_
        exact ⟨rfl, rfl⟩
      · rintro _ H1 ⟨rfl, rfl⟩
        have mem3 : ∀ t ∈ L1 ++ L2, t ∈ W.os := fun t ht => by
          rw [eS]
          rcases List.mem_append.mp ht with z | z
          · exact List.mem_append_left _ z
          · exact List.mem_append_right _ (List.mem_cons_of_mem _ z)
        have esp : (L1 ++ L2).map (·.d) = rmv t.d.num (W.os.map (·.d)) := by
          have h := nd
          rw [eS] at h ⊢
          exact rmv_at h
        refine ⟨_, rfl, .inl ⟨rfl, _, SqL.of c4.o.l⟩, _, rfl, ?_⟩
        dsimp only [tNil]
        refine rem_ord (L1 := L1) (L2 := L2) (t := t) (by rw [← eS]; exact c4.o) (by rw [← eS]; exact nd) (by rw [← eS]; exact hkl) ?_
        obtain ⟨F5, s5, x5, _⟩ := x4.orders (Same.refl _) (c4.o.at_.part mem3)
        have ot5 : upd H1 W.lo (.lst ((L1 ++ L2).map TL.ref)) t.a = some (.lst (lrow t.d)) := (upd_ne (c.o.ne t htm)).trans ot4
        generalize upd H1 W.lo (.lst ((L1 ++ L2).map TL.ref)) = H5 at x5 ot5
        have nb5 : ¬ B1.foot t.a := fun q => x4.dj _ q (.inr (.inr (.inl (.inr ⟨t, htm, rfl⟩))))
        have nw5 : ¬ ({ W with os := L1 ++ L2 } : LW).foot t.a := by
          rintro (e | e | (e | ⟨v, hv, e⟩) | ⟨v, hv, e⟩)
          · exact ne_of hta c.w lst_ne_dK e
          · exact c.nes t htm e
          · exact c.o.ne t htm e
          · have hv2 := mem3 v hv
            have nd' := nd
            rw [eS] at nd'
            exact c.o.apart htm hv2 (nd_split nd' v (List.mem_append.mp hv)) e.symm
          · exact ne_of hta (c.s v hv) lst_tup e
        have x6 := x5.frz ot5 nb5 nw5
        have sF6 : Same F5 (upd F5 t.a (.lst (lrow t.d))) := fun a o e => by
          by_cases q : a = t.a
          · rw [q, upd_same]
            rw [q] at e
            have := x5.same _ _ e
            rw [ot5] at this
            exact this
          · rw [upd_ne q]
            exact e
        have hF6 : upd F5 t.a (.lst (lrow t.d)) t.a = some (.lst (lrow t.d)) := upd_same
        generalize upd F5 t.a (.lst (lrow t.d)) = F6 at x6 sF6 hF6
        have hshow : 0 ≤ minI t.d.shown (1 + m9) := by
          have h1 := gt.2.2.1
          unfold minI
          split <;> omega
        have elw : ({ W with os := L1 ++ L2 } : LW).lw = ⟨rmv t.d.num W.lw.os, W.lw.stops, W.lw.last⟩ := by
          show (⟨(L1 ++ L2).map (·.d), _, _⟩ : Lw) = _
          rw [esp]
          rfl
        have okr := ok.rmO t.d.num
        have Rr := R.rmO ok.inv.os htd
        refine ⟨_, rfl, _, rfl, _, _, _, _, rfl, rfl, SqL.of ot5, at_of (j := 0) rfl rfl, _, rfl, _, _, _, _, rfl, rfl, SqL.of ot5, at_of (j := 1) rfl rfl, _, rfl, _, _, _, _, rfl, rfl, SqL.of ot5, at_of (j := 2) rfl rfl, _, rfl, _, rfl, _, rfl, _, _, _, _, rfl, rfl, SqL.of ot5, at_of (j := 6) rfl rfl, _, rfl, _, _, rfl, _, W.lo, L1 ++ L2, mkOd t.d.num t.d.house t.d.buy (some (97 + m7)) (1 + m9) (minI t.d.shown (1 + m9)), true, rfl, x6.w.o.at_, (by rw [esp]; exact okr.inv.os), (fun t ht => hkl t (mem3 t ht)), (by show 0 ≤ 1 + m9; omega), (by show 1 + m9 ≤ 1000; omega), (by
          have h1 : (L1 ++ L2).length ≤ W.os.length := by rw [eS, List.length_append, List.length_append, List.length_cons]; omega
          omega), fun F7' H7 os7 p rp' s7' o7 en7 due => ?_⟩
        obtain ⟨F7, s7, x7, k7⟩ := x6.orders s7' o7
        rw [esp] at en7
        obtain ⟨erp, R7, eo7⟩ := enter_rel (o := mkOd t.d.num t.d.house t.d.buy (some (97 + m7)) (1 + m9) (minI t.d.shown (1 + m9))) (w := ⟨rmv t.d.num W.lw.os, W.lw.stops, W.lw.last⟩) Rr okr.inv.os (by show 0 ≤ 1 + m9; omega) hshow (fun e => rfl) (fun y hy => (mem_rmv.mp hy).2) en en7
        subst erp
        have ok7 := ok.again (o := mkOd t.d.num t.d.house t.d.buy (some (97 + m7)) (1 + m9) (minI t.d.shown (1 + m9))) (l := lastOf W.last rp.fills) htd rfl rfl en7 eo7
        obtain ⟨g1, g2, g3, g4, g5, g6⟩ := en7.hk okr.hk.o (hkl t htm)
        have erow : rp = ⟨t.d.num, t.d.house, t.d.buy, rp.fills, rp.rem, rp.rest⟩ := by
          obtain ⟨a1, a2, a3, a4, a5, a6⟩ := rp
          have g4 : a1 = t.d.num := g4
          have g5 : a2 = t.d.house := g5
          have g6 : a3 = t.d.buy := g6
          subst g4 g5 g6
          rfl
        have reps7 := so.reps.imp (F1 := hide B.foot H) (F' := F7) fun _ _ z => (((z.to k4).mono s5).mono sF6).mono s7
        rw [erow] at reps7
        have hF7 := s7 _ _ hF6
        have S7 : DueSt A (hide B.foot H) F7 H7 B1 { W with os := os7 } N t.d.num t.d.house t.d.buy rp.fills rp.rem rp.rest Pr p ps rs b1 := ⟨x7, s7 _ _ (sF6 _ _ (s5 _ _ (k4 _ _ so.hp so.fp))), reps7, so.len, due.to k7, R7, ok7, hkl t htm, g3, tr⟩
        refine law_end (i := 7) (j := 8) (ta := tCons (tOp (rIxL K) (tVar 4) (tC (.int 0))) (tCons (tOp (rIxL K) (tVar 4) (tC (.int 1))) (tCons (tOp (rIxL K) (tVar 4) (tC (.int 2))) tNil))) S7 rfl rfl rfl (by omega) (fun H' Qx s q => ?_) fun F' H' W' s x R ok ew => k F' H' B1 W' (((s4.trans s5).trans (sF6.trans s7)).trans s) x R ok nx so.p ew
        have hh := s _ _ hF7
        exact ⟨_, rfl, _, _, _, _, rfl, rfl, SqL.of hh, at_of (j := 0) rfl rfl, _, rfl, _, _, _, _, rfl, rfl, SqL.of hh, at_of (j := 1) rfl rfl, _, rfl, _, _, _, _, rfl, rfl, SqL.of hh, at_of (j := 2) rfl rfl, q⟩
end
end K29
end

section
set_option Elab.async false
set_option maxRecDepth 100000
set_option maxHeartbeats 4000000
set_option linter.unusedVariables false
/-! the law -/
namespace K29
open PySem L2 LamX
section
variable {A : Ad} {F F' H H' : Hp} {B B' : TB} {W W' : LW}
theorem Both.all (b : BCells A H B) (w : WCells H W) (dj : ∀ a, B.foot a → ¬ W.foot a) : Both A (hide (fun a => B.foot a ∨ W.foot a) H) H B W :=
  ⟨hide_same, b, w, fun a ha => hide_in (.inl ha), fun a ha => hide_in (.inr ha), dj⟩
theorem BCells.ext (c : BCells A H B) (e : ExtN H H') : BCells A H' B := c.frame fun a ha => by
  rcases ha with rfl | rfl | rfl | ⟨s, rfl⟩ | ⟨s, t, ht, rfl⟩ | ⟨t, ht, rfl⟩
  · rw [c.ob, e _ _ c.ob fun ps z => by cases z]
  · rw [c.rd, e _ _ c.rd fun ps z => by cases z]
  · rw [c.st, e _ _ c.st fun ps z => by cases z]
  · rw [c.l s, e _ _ (c.l s) fun ps z => by cases z]
  · have h := c.o s t ht
    unfold OAt at h
    rw [h, e _ _ h fun ps z => by cases z]
  · have h := c.s t ht
    unfold SAt at h
    rw [h, e _ _ h fun ps z => by cases z]
theorem WCells.ext (c : WCells H W) (e : ExtN H H') : WCells H' W := c.frame fun a ha => by
  rcases ha with rfl | rfl | (rfl | ⟨t, ht, rfl⟩) | ⟨t, ht, rfl⟩
  · rw [c.w, e _ _ c.w fun ps z => by cases z]
  · rw [c.ls, e _ _ c.ls fun ps z => by cases z]
  · rw [c.o.l, e _ _ c.o.l fun ps z => by cases z]
  · have h := c.o.o t ht
    unfold LAt at h
    rw [h, e _ _ h fun ps z => by cases z]
  · rw [c.s t ht, e _ _ (c.s t ht) fun ps z => by cases z]
/-- the tables stand in no foot -/
theorem Tabs.hide {T : List (Addr × Str)} (t : Tabs T H) (b : BCells A H B) (w : WCells H W) : Tabs T (hide (fun a => B.foot a ∨ W.foot a) H) := by
  have nb : ∀ a o, H a = some o → ((∃ ps, o = .tbl ps) ∨ ∃ c q, o = CodeO c q) → ¬ (B.foot a ∨ W.foot a) := by
    intro a o e ho q
    have bad : ∀ o', H a = some o' → (∀ ps, o' ≠ .tbl ps) → (∀ c q, o' ≠ CodeO c q) → False := fun o' e' n1 n2 => by
      rw [e] at e'
      cases e'
      rcases ho with ⟨ps, z⟩ | ⟨c, q, z⟩
      · exact n1 ps z
      · exact n2 c q z
    rcases q with (rfl | rfl | rfl | ⟨s, rfl⟩ | ⟨s, t, ht, rfl⟩ | ⟨t, ht, rfl⟩) | (rfl | rfl | (rfl | ⟨t, ht, rfl⟩) | ⟨t, ht, rfl⟩)
    · exact bad _ b.ob (fun ps z => by cases z) fun c q z => by cases z
    · exact bad _ b.rd (fun ps z => by cases z) fun c q z => by cases z
    · exact bad _ b.st (fun ps z => by cases z) fun c q z => by cases z
    · exact bad _ (b.l s) (fun ps z => by cases z) fun c q z => by cases z
    · exact bad _ (b.o s t ht) (fun ps z => by cases z) fun c q z => by cases z
    · exact bad _ (b.s t ht) (fun ps z => by cases z) fun c q z => by cases z
    · exact bad _ w.w (fun ps z => by cases z) fun c q z => by cases z
    · exact bad _ w.ls (fun ps z => by cases z) fun c q z => by cases z
    · exact bad _ w.o.l (fun ps z => by cases z) fun c q z => by cases z
    · exact bad _ (w.o.o t ht) (fun ps z => by cases z) fun c q z => by cases z
    · exact bad _ (w.s t ht) (fun ps z => by cases z) fun c q z => by cases z
  intro p hp
  obtain ⟨ps, h1, h2, h3⟩ := t p hp
  refine ⟨ps, by rw [hide_out (nb _ _ h1 (.inl ⟨ps, rfl⟩))]; exact h1, h2, fun pos cv hc => ?_⟩
  obtain ⟨c, e1, e2⟩ := h3 pos cv hc
  exact ⟨c, e1, by rw [hide_out (nb _ _ e2 (.inr ⟨_, _, rfl⟩))]; exact e2⟩
end
theorem sq_extN {K : PySem.W.Frag} {H H' : Hp} (e : ExtN H H') {a : Addr} {xs : List V} (h : SqL K H a xs) : SqL K H' a xs := by
  rcases h with (h | ⟨o, h⟩) | h
  · exact .inl (.inl (e _ _ h (fun ps z => by cases z)))
  · exact .inl (.inr ⟨o, e _ _ h (fun ps z => by cases z)⟩)
  · exact .inr h
theorem st_extN {K : PySem.W.Frag} {H H' : Hp} (e : ExtN H H') {a : Addr} {xs : List V} (h : SqT K H a xs) : SqT K H' a xs := by
  rcases h with (h | ⟨o, h⟩) | h
  · exact .inl (.inl (e _ _ h (fun ps z => by cases z)))
  · exact .inl (.inr ⟨o, e _ _ h (fun ps z => by cases z)⟩)
  · exact .inr h
mutual
theorem dp_extN {K : PySem.W.Frag} {H H' : Hp} (s : ExtN H H') : ∀ {d : PyData} {v : V}, Dp K H v d → Dp K H' v d
  | _, _, .non => .non
  | _, _, .bl b => .bl b
  | _, _, .int i => .int i
  | _, _, .str x => .str x
  | _, _, .lst h a => .lst (sq_extN s h) (dpa_extN s a)
  | _, _, .tup h a => .tup (st_extN s h) (dpa_extN s a)
theorem dpa_extN {K : PySem.W.Frag} {H H' : Hp} (s : ExtN H H') : ∀ {ds : List PyData} {vs : List V}, DpAll K H vs ds → DpAll K H' vs ds
  | _, _, .nil => .nil
  | _, _, .cons h a => .cons (dp_extN s h) (dpa_extN s a)
end
theorem wkv_made (lo ls : Addr) : mergeK [] [((Sum.inr "orders" : Key), V.ref lo), (Sum.inr "stops", V.ref ls), (Sum.inr "last", V.non)] = wkv lo ls none := by kernel_rfl
theorem cut_int {ns : List Int} {lo hi : Option Int} {i : Nat} {x : V} (h : (cutV (ns.map V.int) lo hi)[i]? = some x) : ∃ c, x = .int c := by
  have hm := List.mem_of_getElem? h
  unfold cutV at hm
  obtain ⟨c, _, e⟩ := List.mem_map.mp (List.mem_of_mem_drop (List.mem_of_mem_take hm))
  exact ⟨c, e.symm⟩
theorem cut_len {xs : List V} : (cutV xs none (some 24)).length ≤ 24 := by
  unfold cutV
  rw [List.length_take]
  have : HT.sIx xs.length xs.length (some 24) ≤ 24 := by
    unfold HT.sIx
    simp
    omega
  omega
noncomputable def lamT (A : Ad) (c Pt : Addr) : List (Addr × Str) := [(Pt, (PyProof.Rows.envOfC "law" (defScope s_law) 0 A.f_law (.ref c)).qual ++ "<lambda>")]
section
variable {P : Program} {w : World} {K : PySem.W.Frag} {mg : Str → Option Value} {base : Heap} {A : Ad}
def spLaw (K : PySem.W.Frag) (Pt : Addr) : Sp := fun vs H Q _ => ∃ (a : Addr) (ns : List Int), vs = [.ref a] ∧ SqL K H a (ns.map V.int) ∧ H Pt = some (.tbl #[]) ∧ ∀ H', Q (.bl true) H'
/-- the state of the law at a turn -/
structure LawS (A : Ad) (T : List (Addr × Str)) (D : Addr) (xs : List V) (i : Nat) (H : Hp) (B : TB) (W : LW) (N : Nat) : Prop where
  b : BCells A H B
  w : WCells H W
  dj : ∀ a, B.foot a → ¬ W.foot a
  hD : H D = some (.lst xs)
  nb : ¬ B.foot D
  nw : ¬ W.foot D
  R : Rel B.bk W.lw
  ok : LOk N W.lw
  nx : B.next = (N : Int) + 1
  le : N ≤ i
  t : Tabs T H
theorem ok_law (T : Txt K mg A) {c Pt : Addr} (hc : A.d_law.code = .ref c) (tb : TabB base mg c Pt) : FnOk P w K mg base CX0 9 A.f_law A.d_law ["_law_script"] (spLaw K Pt) := by
  obtain ⟨oc, od, kV, doc, pm, an, cdv, ct, osl, efd, lk, hcd⟩ := T.F_law.ex
  have ecd : cdv = .ref c := by
    rw [efd] at hc
    exact hc
  subst ecd
  rw [efd] at lk ⊢
  refine fn_of lk hcd sc_law (fun vs H Q E h => ?_) (fun Ar outer s H vs Q E hr h => ?_)
  · obtain ⟨_, _, rfl, _⟩ := h
    rfl
  · obtain ⟨a, ns, rfl, ha, hPt, k⟩ := h
    obtain ⟨dsI, hvI, hbI⟩ := T.b_Binit
    suffices hs : ∃ t, PSs (cxOf CX0 P w K mg base ["_law_script", "_law_book", "_law_world", "_law_number", "_law_cell", "_law_step", "_law_right", "_law_side"] "law" (defScope s_law) A.f_law (.ref c) Ar outer s H E).nox (defBody s_law) t ∧ t { nx := fun _ H' => Q .non H', rt := Q } (L2.start ["_law_script", "_law_book", "_law_world", "_law_number", "_law_cell", "_law_step", "_law_right", "_law_side"] [.ref a]) H by
      obtain ⟨t, h, q⟩ := hs
      exact ⟨t, h.nox, q⟩
    refine ⟨_, (pss_cons (ps_set (i := 1) sc_law.nd rfl (Or.inl rfl) (pe_make0 T.kB (ok_binit T) (hr.mono (by decide)) (by rfl) T.mB hbI hvI pass0))
      (pss_cons (ps_set (i := 2) sc_law.nd rfl (Or.inl rfl) (pe_disp (pps_cons pe_str (pe_lst pa_nil) (pps_cons pe_str (pe_lst pa_nil) (pps_cons pe_str pe_non pps_nil))) (by rfl) (by rfl) (fun z => by cases z) (by decide)))
      (pss_cons (ps_set (i := 3) sc_law.nd rfl (Or.inl rfl) pe_int)
      (pss_cons (ps_for PassesOwn.never rfl (pi_list (pe_slice sl_list (pv 0) po_none (po_some pe_int))) (pg_name (i := 4) sc_law.nd rfl (Or.inl rfl)) (pss_cons (ps_set (i := 5) sc_law.nd rfl (Or.inl rfl) (pe_op op_mod (pe_callTy call_int1 (by rfl) T.z_int PyProof.Rows.boot_int (pa_cons (pv 4) pa_nil)) pe_int))
      (Evl.pss_cut (ps_if (PW.pt (pw_and (pt_cmpR op_eq (pv 5) pe_int (nomark _)) (pw_and1 (pt_cmpR op_gt (pe_op op_add (pe_callB call_len_seq (by rfl) T.z_len PySem.boot_len (pa_cons (pe_dget (hu_of hr) (pv 2) pe_str (fun _ _ => rfl)) pa_nil)) (pe_callB call_len_seq (by rfl) T.z_len PySem.boot_len (pa_cons (pe_dget (hu_of hr) (pv 2) pe_str (fun _ _ => rfl)) pa_nil))) pe_int (nomark _))))) (pss_one (ps_set (i := 6) sc_law.nd rfl (Or.inl rfl) (pe_call (ok_law_cancel T) (hr.mono (by decide)) (by rfl) T.g_law_cancel T.F_law_cancel.kp T.b_law_cancel .nil pass0 (pa_cons (pv 1) (pa_cons (pv 2) (pa_cons (pe_op op_fdiv (pv 4) pe_int) pa_nil)))))) (pss_one (ps_if (PW.pt (pw_and (pt_cmpR op_eq (pv 5) pe_int (nomark _)) (pw_and1 (pt_truth (pe_dget (hu_of hr) (pv 2) pe_str (fun _ _ => rfl)) (by intro _; rfl))))) (pss_one (ps_set (i := 6) sc_law.nd rfl (Or.inl rfl) (pe_call (ok_law_amend T) (hr.mono (by decide)) (by rfl) T.g_law_amend T.F_law_amend.kp T.b_law_amend .nil pass0 (pa_cons (pv 1) (pa_cons (pv 2) (pa_cons (pe_op op_fdiv (pv 4) pe_int) pa_nil)))))) (pss_cons (ps_set (i := 3) sc_law.nd rfl (Or.inl rfl) (pe_op op_add (pv 3) pe_int))
      (pss_one (ps_set (i := 6) sc_law.nd rfl (Or.inl rfl) (pe_call (ok_law_submit T) (hr.mono (by decide)) (by rfl) T.g_law_submit T.F_law_submit.kp T.b_law_submit .nil pass0 (pa_cons (pv 1) (pa_cons (pv 2) (pa_cons (pe_op op_fdiv (pv 4) pe_int) (pa_cons (pv 3) pa_nil)))))))))))
      (pss_cons (ps_if (PW.pt (pw_or (pt_not (pt_val (pv 6))) (pw_or (pt_cmpR op_ne (pe_fld (pv 1) rfl) (pe_dget (hu_of hr) (pv 2) pe_str (fun _ _ => rfl)) (nomark _)) (pw_or1 (pt_cmpR (op_neD hr.units) (pe_meth0 (pv 1) T.cB T.h_Bstops (ok_stops T) (hr.mono (by decide)) T.b_Bstops .nil pass0) (pe_sortedLam (T := lamT A c Pt) (c := c) (P := Pt) (by rfl) T.z_sorted (pa_cons (pe_dget (hu_of hr) (pv 2) pe_str (fun _ _ => rfl)) pa_nil) (hr.mono (by decide)) tb rfl (List.mem_singleton.mpr rfl) (fun p hp _ => by rw [List.mem_singleton.mp hp]; rfl) rfl rfl rfl (by decide +kernel) (by decide +kernel) rfl (by decide +kernel) rfl (fun _ _ _ _ _ _ => rfl)) (nomark _)))))) (pss_one (ps_ret pe_bl)) pss_nil)
      (pss_one (ps_for PassesOwn.never rfl (pi_tup (pe_tup (pa_cons pe_str (pa_cons pe_str pa_nil)))) (pg_name (i := 7) sc_law.nd rfl (Or.inl rfl)) (pss_one (ps_if (pt_cmpR (op_neD hr.units) (pe_meth (pv 1) T.cB T.h_Borders (ok_orders T) (hr.mono (by decide)) T.b_Borders .nil pass0 (pa_cons (pv 7) pa_nil)) (pe_call (ok_law_listed T) (hr.mono (by decide)) (by rfl) T.g_law_listed T.F_law_listed.kp T.b_law_listed .nil pass0 (pa_cons (pe_dget (hu_of hr) (pv 2) pe_str (fun _ _ => rfl)) (pa_cons (pv 7) pa_nil))) (nomark _)) (pss_one (ps_ret pe_bl)) pss_nil))))))))
      (pss_one (ps_ret pe_bl)))))), ?_⟩
    intro bx bdx nbx nbdx nbe
    refine ⟨bx, bdx, rfl, upd_same, fun H1 B pB bB bkB nxB keepB freshB => ⟨rfl, ?_⟩⟩
    have s1 : Same H H1 := fun b o e => by
      have h1 : b ≠ bx := ne_of_none e nbx
      have h2 : b ≠ bdx := ne_of_none e nbdx
      exact keepB b o (by rw [upd_ne h1, upd_ne h2]; exact e) h1
    intro wd hwd
    refine ⟨Nat.zero_le _, fun lo hlo => ⟨Nat.zero_le _, fun ls hls => ?_⟩⟩
    have wlo : wd ≠ lo := fun e => by rw [← e, upd_same] at hlo; cases hlo
    have hlo0 : H1 lo = none := by rwa [upd_ne wlo.symm] at hlo
    have wls : wd ≠ ls := fun e => by rw [← e, upd_ne wlo, upd_same] at hls; cases hls
    have lols : lo ≠ ls := fun e => by rw [← e, upd_same] at hls; cases hls
    have hls0 : H1 ls = none := by rwa [upd_ne lols.symm, upd_ne wls.symm] at hls
    refine ⟨by rw [upd_ne wls, upd_ne wlo, upd_same], [(.inr "orders", .ref lo), (.inr "stops", .ref ls), (.inr "last", .non)], rfl, (by show 3 ≤ 15; decide), ?_⟩
    rw [wkv_made]
    have s2 : Same H1 (upd (upd (upd (upd H1 wd (.dK [])) lo (.lst [])) ls (.lst [])) wd (.dK (wkv lo ls none))) := fun b o e => by
      have h1 : b ≠ wd := ne_of_none e hwd
      have h2 : b ≠ lo := ne_of_none e hlo0
      have h3 : b ≠ ls := ne_of_none e hls0
      rw [upd_ne h1, upd_ne h3, upd_ne h2, upd_ne h1]
      exact e
    have w2 : WCells (upd (upd (upd (upd H1 wd (.dK [])) lo (.lst [])) ls (.lst [])) wd (.dK (wkv lo ls none))) ⟨wd, lo, ls, [], [], none⟩ :=
      ⟨upd_same, ⟨by
        show upd _ wd _ lo = _
        rw [upd_ne wlo.symm, upd_ne lols, upd_same]
        rfl, fun t ht => (nomatch ht), fun t ht => (nomatch ht)⟩, by
        show upd _ wd _ ls = _
        rw [upd_ne wls.symm, upd_same]
        rfl, fun t ht => (nomatch ht), lols, fun t ht => (nomatch ht)⟩
    have dj2 : ∀ a, B.foot a → ¬ (⟨wd, lo, ls, [], [], none⟩ : LW).foot a := fun a ha hw => by
      obtain ⟨o, e⟩ := bB.has ha
      rcases hw with q | q | (q | ⟨t, ht, q⟩) | ⟨t, ht, q⟩
      · have q : a = wd := q
        rw [q, hwd] at e
        cases e
      · have q : a = ls := q
        rw [q, hls0] at e
        cases e
      · have q : a = lo := q
        rw [q, hlo0] at e
        cases e
      · cases ht
      · cases ht
    generalize upd (upd (upd (upd H1 wd (.dK [])) lo (.lst [])) ls (.lst [])) wd (.dK (wkv lo ls none)) = H2 at s2 w2
    have s02 := s1.trans s2
    refine ⟨_, rfl, 24, rfl, a, _, rfl, s02.seq ha, fun D hD => ⟨D, rfl, ⟨_, SqL.of upd_same⟩, ?_⟩⟩
    have S0 : LawS A (lamT A c Pt) D (cutV (ns.map V.int) none (some 24)) 0 (upd H2 D (.lst (cutV (ns.map V.int) none (some 24)))) B ⟨wd, lo, ls, [], [], none⟩ 0 := by
      have b2 := bB.sameH s2
      have n2 := Same.newH (o := .lst (cutV (ns.map V.int) none (some 24))) hD
      refine ⟨b2.sameH n2, w2.sameH n2, dj2, upd_same, b2.free hD, w2.free hD, ⟨fun s => by rw [bkB]; rfl, by rw [bkB]; rfl, by rw [bkB]; rfl⟩, ⟨⟨⟨List.nodup_nil, fun o ho => (nomatch ho)⟩, List.Pairwise.nil, fun s hs => (nomatch hs), fun s hs => (nomatch hs), Nat.le_refl _⟩, ⟨fun o ho => (nomatch ho), fun o ho => (nomatch ho)⟩, fun o ho => (nomatch ho), fun o ho => (nomatch ho)⟩, nxB, Nat.le_refl _, fun p hp => ?_⟩
      rw [List.mem_singleton.mp hp]
      exact TabS.nil (n2 _ _ (s02 _ _ hPt))
    have hxl := cut_len (xs := ns.map V.int)
    have hxi := fun {i : Nat} {x : V} => cut_int (ns := ns) (lo := none) (hi := some 24) (i := i) (x := x)
    generalize cutV (ns.map V.int) none (some 24) = xs at S0 hxl hxi
    subst pB
    generalize upd H2 D (.lst xs) = H3 at S0
    refine for_list (K := K) (a := D) (xs := xs) (fun i σ H' => ∃ (B' : TB) (W' : LW) (N : Nat) (v4 v5 v6 v7 : Option V), σ = [some (.ref a), some (.ref B'.p), some (.ref W'.w), some (.int (N : Int)), v4, v5, v6, v7] ∧ LawS A (lamT A c Pt) D xs i H' B' W' N) ⟨B, _, 0, _, _, _, _, rfl, S0⟩ (fun i σ H' _ ⟨_, _, _, _, _, _, _, _, S⟩ => SqL.of S.hD) ?_ ?_
    · rintro i x σ H4 hi ⟨B1, W1, N, v4, v5, v6, v7, rfl, S⟩
      obtain ⟨cl, rfl⟩ := hxi hi
      have hi24 : i < 24 := by
        have := (List.getElem?_eq_some_iff.mp hi).1
        omega
      have hN := S.le
      have x1 := Both.all S.b S.w S.dj
      have t1 := Tabs.hide S.t S.b S.w
      have hD1 : hide (fun a => B1.foot a ∨ W1.foot a) H4 D = some (.lst xs) := by
        rw [hide_out (fun z => z.elim S.nb S.nw)]
        exact S.hD
      generalize hF1 : hide (fun a => B1.foot a ∨ W1.foot a) H4 = F1 at x1 t1 hD1
      refine ⟨_, rfl, .inl ⟨cl, rfl, cl, 8, rfl, rfl, (by show (0 : Int) < 8; decide), ?_⟩⟩
      refine ⟨fun σ' H'' => ∃ (F2 : Hp) (B2 : TB) (W2 : LW) (N2 : Nat) (v5 v7 : Option V), σ' = [some (.ref a), some (.ref B2.p), some (.ref W2.w), some (.int (N2 : Int)), some (.int cl), v5, some (.bl true), v7] ∧ Same F1 F2 ∧ Both A F2 H'' B2 W2 ∧ Rel B2.bk W2.lw ∧ LOk N2 W2.lw ∧ B2.next = (N2 : Int) + 1 ∧ N2 ≤ i + 1, ?_, ?_⟩
      · have c4 := x1.w
        have l1 : (W1.os.map TL.ref).length = W1.os.length := List.length_map ..
        have l2 : (W1.ss.map TP.ref).length = W1.ss.length := List.length_map ..
        refine (fun (g : ?T) => ?main) ?els
        case main =>
          refine ⟨_, rfl, rfl, _, rfl, ?_⟩
          rw [int_eq]
          by_cases h6 : cl % 8 = 6
          · refine iteTe (decide_eq_true h6) ?_
            refine ⟨_, rfl, W1.w, _, rfl, c4.gO, _, _, rfl, .inl (SqL.of c4.o.l), _, rfl, W1.w, _, rfl, c4.gS, _, _, rfl, .inl (SqL.of c4.ls), _, _, rfl, rfl, _, _, rfl, rfl, _, rfl, ?_⟩
            rw [l1, l2]
            show if decide ((0 : Int) < (W1.os.length : Int) + (W1.ss.length : Int)) = true then _ else _
            by_cases hpos : 0 < W1.os.length + W1.ss.length
            · refine iteTe (decide_eq_true (by clear g; omega)) ?_
              refine ⟨_, rfl, _, rfl, _, rfl, cl, 8, rfl, rfl, ⟨by decide, by decide⟩, F1, B1, W1, N, cl / 8, rfl, x1, S.R, S.ok, by clear g; omega, hpos, fun F' H' B' W' s x R ok nx pp ww => ?_⟩
              exact ⟨F', B', W', N, _, _, by rw [pp, ww]; rfl, s, x, R, ok, nx.trans S.nx, by clear g; omega⟩
            · refine iteFe (decide_eq_false (by clear g; omega)) ?_
              refine ⟨_, rfl, rfl, _, rfl, ?_⟩
              rw [int_eq]
              refine iteFe (decide_eq_false (by clear g; omega)) (iteF ?_)
              exact g
          · refine iteFe (decide_eq_false h6) (iteF ?_)
            refine ⟨_, rfl, rfl, _, rfl, ?_⟩
            rw [int_eq]
            by_cases h7 : cl % 8 = 7
            · refine iteTe (decide_eq_true h7) ?_
              refine ⟨_, rfl, W1.w, _, rfl, c4.gO, _, .inl ⟨_, SqL.of c4.o.l, rfl⟩, ?_⟩
              cases hos : W1.os with
              | nil =>
                refine iteF ?_
                exact g
              | cons t0 rest =>
                refine iteT ?_
                refine ⟨_, rfl, _, rfl, _, rfl, cl, 8, rfl, rfl, ⟨by decide, by decide⟩, F1, B1, W1, N, cl / 8, rfl, x1, S.R, S.ok, by clear g; omega, by rw [hos]; exact Nat.succ_pos _, fun F' H' B' W' s x R ok nx pp ww => ?_⟩
                exact ⟨F', B', W', N, _, _, by rw [pp, ww]; rfl, s, x, R, ok, nx.trans S.nx, by clear g; omega⟩
            · refine iteFe (decide_eq_false h7) (iteF ?_)
              exact g
        case els =>
          refine ⟨_, rfl, _, _, rfl, rfl, ?_⟩
          refine ⟨_, rfl, _, rfl, _, rfl, cl, 8, rfl, rfl, ⟨by decide, by decide⟩, _, rfl, F1, B1, W1, N, cl / 8, rfl, x1, S.R, S.ok, S.nx, by omega, fun F' H' B' W' s x R ok nx pp ww => ?_⟩
          exact ⟨F', B', W', N + 1, _, _, by rw [pp, ww]; rfl, s, x, R, ok, nx.trans (by omega), by omega⟩
      · rintro _ H5 ⟨F2, B2, W2, N2, v5, v7, rfl, s12, x2, R2, ok2, nx2, hN2⟩
        have t2 := (t1.ext s12).ext x2.same
        have hD2 := x2.same _ _ (s12 _ _ hD1)
        obtain ⟨nb2, nw2⟩ := x2.out (s12 _ _ hD1)
        have binv : BInv 1000 B2.bk := R2.binv (ok2.inv.mono (by omega))
        have hks : ∀ u ∈ W2.ss, hOk u.d.house := fun u hu => ok2.hk.s u.d (List.mem_map.mpr ⟨u, hu, rfl⟩)
        have ebs : B2.ss.map (·.d) = W2.ss.map (·.d) := R2.stops
        have lss : B2.ss.length ≤ 10000 := by
          have h1 := binv.len
          have h2 : B2.bk.stops.length = B2.ss.length := List.length_map ..
          omega
        have los : W2.os.length ≤ 1000 := by
          have h1 := ok2.inv.len
          have h2 : W2.lw.os.length = W2.os.length := List.length_map ..
          omega
        have elast : B2.last = W2.last := R2.last
        refine ⟨_, rfl, true, rfl, ?_⟩
        refine iteF ?_
        refine ⟨_, rfl, B2.p, A.CB, B2.dx, _, _, rfl, x2.b.ob, T.cB, T.nB_last, bfs_last _ _ _ _, _, rfl, W2.w, _, rfl, x2.w.gL, (by rw [elast]; cases W2.last <;> rfl), _, rfl, ?_⟩
        rw [elast, decide_eq_true rfl]
        refine iteF ?_
        refine ⟨_, rfl, B2.p, B2.dx, _, rfl, x2.b.ob, bfs_no_stops _ _ _ _, B2, rfl, x2.b, lss, fun H6 q1 s6 dq1 => ?_⟩
        have x6 := x2.sameH s6
        have t6 := t2.ext s6
        have spw : (W2.ss.map (·.d.num)).Pairwise (· < ·) := by
          rw [map_numS]
          exact ok2.inv.sp
        have eref : (W2.ss.map (·.a)).map V.ref = W2.ss.map TP.ref := by rw [List.map_map]; rfl
        refine ⟨_, rfl, W2.w, _, rfl, x6.w.gS, W2.ls, W2.ss.map (·.a), W2.ss.map (·.d.num), rfl, by rw [eref]; exact SqL.of x6.w.ls, by rw [List.length_map, List.length_map], fun j aj nj ha1 hn1 => ?_, spw, t6, fun H7 e7 t7 q2 hq2 => ?_⟩
        · rw [List.getElem?_map] at ha1 hn1
          cases hu : W2.ss[j]? with
          | none =>
            rw [hu] at ha1
            cases ha1
          | some u =>
            rw [hu] at ha1 hn1
            cases ha1
            cases hn1
            exact ⟨_, x6.w.s u (List.mem_of_getElem? hu)⟩
        have n8 := Same.newH (o := .lst ((W2.ss.map (·.a)).map V.ref)) hq2
        have b8 := (x6.b.ext e7).sameH n8
        have w8 := (x6.w.ext e7).sameH n8
        have t8 := t7.ext n8
        have hD8 := n8 _ _ (e7 _ _ (s6 _ _ hD2) (fun ps z => by cases z))
        have dq8 := dp_mono n8 (dp_extN e7 dq1)
        have dr8 : Dp K (upd H7 q2 (.lst ((W2.ss.map (·.a)).map V.ref))) (.ref q2) (.list (W2.ss.map fun t => sdata t.d)) := by
          have hall : DpAll K (upd H7 q2 (.lst ((W2.ss.map (·.a)).map V.ref))) (W2.ss.map TP.ref) (W2.ss.map fun t => sdata t.d) := dpa_map fun u hu => dp_srow (s := u.d) (p := u.a) (w8.s u hu)
          rw [← eref] at hall
          exact .lst (SqL.of upd_same) hall
        have edat : (B2.ss.map fun t => sdata t.d) = W2.ss.map fun t => sdata t.d := by
          have h1 : (B2.ss.map fun t => sdata t.d) = (B2.ss.map (·.d)).map sdata := by rw [List.map_map]; rfl
          have h2 : (W2.ss.map fun t => sdata t.d) = (W2.ss.map (·.d)).map sdata := by rw [List.map_map]; rfl
          rw [h1, h2, ebs]
        rw [edat] at dq8
        have lay : Lay 2 (.list (W2.ss.map fun t => sdata t.d)) := .list fun d hd => by
          obtain ⟨u, hu, rfl⟩ := List.mem_map.mp hd
          exact lay_sdata (hks u hu)
        refine ⟨_, _, dq8, dr8, lay.shaped (by decide), lay.shaped (by decide), _, rfl, ?_⟩
        rw [SeqAt.eqv_refl _ lay.can]
        refine iteF ?_
        generalize upd H7 q2 (.lst ((W2.ss.map (·.a)).map V.ref)) = H8 at b8 w8 t8 hD8
        refine ⟨(by show 2 ≤ sizeLine; decide), fun q hq => ?_⟩
        have s9 : Same H8 (upd H8 q (.tup [.str "buy", .str "sell"])) := Same.newH hq
        refine ⟨q, rfl, ⟨_, SqT.of upd_same⟩, for_tup (K := K) (a := q) (xs := [.str "buy", .str "sell"]) (fun j σ H' => ∃ v7, σ = [some (.ref a), some (.ref B2.p), some (.ref W2.w), some (.int (N2 : Int)), some (.int cl), v5, some (.bl true), v7] ∧ Same (upd H8 q (.tup [.str "buy", .str "sell"])) H')
          ⟨_, rfl, Same.refl _⟩ (fun j σ H' _ ⟨_, _, e⟩ => SqT.of (e _ _ upd_same)) ?_ ?_⟩
        · rintro j x σ H9 hj ⟨v7, rfl, s10⟩
          obtain ⟨sb, rfl⟩ : ∃ sb, x = .str (sd sb) := by
            match j, hj with
            | 0, hj => exact ⟨true, (Option.some.inj hj).symm⟩
            | 1, hj => exact ⟨false, (Option.some.inj hj).symm⟩
            | j + 2, hj => simp at hj
          have b9 := b8.sameH (s9.trans s10)
          have w9 := w8.sameH (s9.trans s10)
          refine ⟨_, rfl, B2.p, B2.dx, _, rfl, b9.ob, bfs_no_orders _ _ _ _, _, rfl, B2, sb, rfl, b9, Nat.le_trans (binv.lens sb) (by decide), fun H10 q10 s11 d10 => ?_⟩
          have w10 := w9.sameH s11
          refine ⟨_, rfl, W2.w, _, rfl, w10.gO, _, rfl, W2.lo, W2.os, sb, rfl, w10.o, ok2.inv.os, (fun t ht => ok2.hk.o t.d (List.mem_map.mpr ⟨t, ht, rfl⟩)), los, fun H11 q11 s12 d11 => ?_⟩
          have edo : ((B2.os sb).map fun t => odata t.d) = (srt sb (W2.os.map (·.d))).map odata := by
            have h1 : ((B2.os sb).map fun t => odata t.d) = (B2.bk.L sb).map odata := by
              show _ = ((B2.os sb).map (·.d)).map odata
              rw [List.map_map]
              rfl
            rw [h1, R2.L]
            rfl
          rw [edo] at d10
          have layo : Lay 2 (.list ((srt sb (W2.os.map (·.d))).map odata)) := .list fun d hd => by
            obtain ⟨u, hu, rfl⟩ := List.mem_map.mp hd
            exact lay_odata (ok2.hk.o u ((mem_srt _).mp hu).1)
          refine ⟨_, _, dp_mono s12 d10, d11, layo.shaped (by decide), layo.shaped (by decide), _, rfl, ?_⟩
          rw [SeqAt.eqv_refl _ layo.can]
          refine iteF ?_
          exact ⟨_, rfl, (s10.trans s11).trans s12⟩
        · rintro σ H9 ⟨v7, rfl, s10⟩
          have s89 := s9.trans s10
          exact ⟨B2, W2, N2, _, _, _, _, rfl, b8.sameH s89, w8.sameH s89, x2.dj, s89 _ _ hD8, nb2, nw2, R2, ok2, nx2, hN2, t8.ext s89⟩
    · rintro σ H' ⟨B', W', N, v4, v5, v6, v7, rfl, S⟩
      exact k H'
end
end K29
end

section
set_option Elab.async false
set_option maxRecDepth 100000
set_option maxHeartbeats 0
/-! what the top has written, the law's own head -/
namespace K29
open PySem L2 LamX

theorem all_mk {l : PySem.W.OpenLaw} {w : World} {K : PySem.W.Frag} {h : Heap} {mg : Str → Option Value} {fa : Addr} (X : K.In h) (G : h.Ns mainGlobals mg) (hfa : mg "law" = some (.ref fa))
    {CO : Addr}
    {CR : Addr}
    {CS : Addr}
    {CB : Addr}
    {f_is_integer : Addr} {od_is_integer an_is_integer : Option Addr} {sl_is_integer : Array (Option Value)} {oc_is_integer kV_is_integer dc_is_integer pm_is_integer ct_is_integer : Value}
    {cd_is_integer : Value}
    {f_in_range : Addr} {od_in_range an_in_range : Option Addr} {sl_in_range : Array (Option Value)} {oc_in_range kV_in_range dc_in_range pm_in_range ct_in_range : Value}
    {cd_in_range : Value}
    {f_Oinit : Addr} {od_Oinit an_Oinit : Option Addr} {sl_Oinit : Array (Option Value)} {oc_Oinit kV_Oinit dc_Oinit pm_Oinit ct_Oinit : Value}
    {cd_Oinit : Value}
    {f_Oshow_next_part : Addr} {od_Oshow_next_part an_Oshow_next_part : Option Addr} {sl_Oshow_next_part : Array (Option Value)} {oc_Oshow_next_part kV_Oshow_next_part dc_Oshow_next_part pm_Oshow_next_part ct_Oshow_next_part : Value}
    {cd_Oshow_next_part : Value}
    {f_Otake : Addr} {od_Otake an_Otake : Option Addr} {sl_Otake : Array (Option Value)} {oc_Otake kV_Otake dc_Otake pm_Otake ct_Otake : Value}
    {cd_Otake : Value}
    {f_Oreduce : Addr} {od_Oreduce an_Oreduce : Option Addr} {sl_Oreduce : Array (Option Value)} {oc_Oreduce kV_Oreduce dc_Oreduce pm_Oreduce ct_Oreduce : Value}
    {cd_Oreduce : Value}
    {f_Oentry : Addr} {od_Oentry an_Oentry : Option Addr} {sl_Oentry : Array (Option Value)} {oc_Oentry kV_Oentry dc_Oentry pm_Oentry ct_Oentry : Value}
    {cd_Oentry : Value}
    {f_other_side : Addr} {od_other_side an_other_side : Option Addr} {sl_other_side : Array (Option Value)} {oc_other_side kV_other_side dc_other_side pm_other_side ct_other_side : Value}
    {cd_other_side : Value}
    {f_is_better : Addr} {od_is_better an_is_better : Option Addr} {sl_is_better : Array (Option Value)} {oc_is_better kV_is_better dc_is_better pm_is_better ct_is_better : Value}
    {cd_is_better : Value}
    {f_accepts : Addr} {od_accepts an_accepts : Option Addr} {sl_accepts : Array (Option Value)} {oc_accepts kV_accepts dc_accepts pm_accepts ct_accepts : Value}
    {cd_accepts : Value}
    {f_check_order : Addr} {od_check_order an_check_order : Option Addr} {sl_check_order : Array (Option Value)} {oc_check_order kV_check_order dc_check_order pm_check_order ct_check_order : Value}
    {cd_check_order : Value}
    {f_check_stop : Addr} {od_check_stop an_check_stop : Option Addr} {sl_check_stop : Array (Option Value)} {oc_check_stop kV_check_stop dc_check_stop pm_check_stop ct_check_stop : Value}
    {cd_check_stop : Value}
    {f_Rinit : Addr} {od_Rinit an_Rinit : Option Addr} {sl_Rinit : Array (Option Value)} {oc_Rinit kV_Rinit dc_Rinit pm_Rinit ct_Rinit : Value}
    {cd_Rinit : Value}
    {f_Sinit : Addr} {od_Sinit an_Sinit : Option Addr} {sl_Sinit : Array (Option Value)} {oc_Sinit kV_Sinit dc_Sinit pm_Sinit ct_Sinit : Value}
    {cd_Sinit : Value}
    {f_Sis_reached : Addr} {od_Sis_reached an_Sis_reached : Option Addr} {sl_Sis_reached : Array (Option Value)} {oc_Sis_reached kV_Sis_reached dc_Sis_reached pm_Sis_reached ct_Sis_reached : Value}
    {cd_Sis_reached : Value}
    {f_Sentry : Addr} {od_Sentry an_Sentry : Option Addr} {sl_Sentry : Array (Option Value)} {oc_Sentry kV_Sentry dc_Sentry pm_Sentry ct_Sentry : Value}
    {cd_Sentry : Value}
    {f_Binit : Addr} {od_Binit an_Binit : Option Addr} {sl_Binit : Array (Option Value)} {oc_Binit kV_Binit dc_Binit pm_Binit ct_Binit : Value}
    {cd_Binit : Value}
    {TB : Addr} {ocT : Value} {odT : Option Addr} {nT : Nat} {slT : Array (Option Value)} {tT : Tok}
    {f_Borders : Addr} {od_Borders an_Borders : Option Addr} {sl_Borders : Array (Option Value)} {oc_Borders kV_Borders dc_Borders pm_Borders ct_Borders : Value}
    {cd_Borders : Value}
    {f_Bstops : Addr} {od_Bstops an_Bstops : Option Addr} {sl_Bstops : Array (Option Value)} {oc_Bstops kV_Bstops dc_Bstops pm_Bstops ct_Bstops : Value}
    {cd_Bstops : Value}
    {f_Bsubmit : Addr} {od_Bsubmit an_Bsubmit : Option Addr} {sl_Bsubmit : Array (Option Value)} {oc_Bsubmit kV_Bsubmit dc_Bsubmit pm_Bsubmit ct_Bsubmit : Value}
    {cd_Bsubmit : Value}
    {f_Bsubmit_stop : Addr} {od_Bsubmit_stop an_Bsubmit_stop : Option Addr} {sl_Bsubmit_stop : Array (Option Value)} {oc_Bsubmit_stop kV_Bsubmit_stop dc_Bsubmit_stop pm_Bsubmit_stop ct_Bsubmit_stop : Value}
    {cd_Bsubmit_stop : Value}
    {f_Bcancel : Addr} {od_Bcancel an_Bcancel : Option Addr} {sl_Bcancel : Array (Option Value)} {oc_Bcancel kV_Bcancel dc_Bcancel pm_Bcancel ct_Bcancel : Value}
    {cd_Bcancel : Value}
    {f_Bamend : Addr} {od_Bamend an_Bamend : Option Addr} {sl_Bamend : Array (Option Value)} {oc_Bamend kV_Bamend dc_Bamend pm_Bamend ct_Bamend : Value}
    {cd_Bamend : Value}
    {f_Bnew_number : Addr} {od_Bnew_number an_Bnew_number : Option Addr} {sl_Bnew_number : Array (Option Value)} {oc_Bnew_number kV_Bnew_number dc_Bnew_number pm_Bnew_number ct_Bnew_number : Value}
    {cd_Bnew_number : Value}
    {f_Bowned : Addr} {od_Bowned an_Bowned : Option Addr} {sl_Bowned : Array (Option Value)} {oc_Bowned kV_Bowned dc_Bowned pm_Bowned ct_Bowned : Value}
    {cd_Bowned : Value}
    {f_Bremove : Addr} {od_Bremove an_Bremove : Option Addr} {sl_Bremove : Array (Option Value)} {oc_Bremove kV_Bremove dc_Bremove pm_Bremove ct_Bremove : Value}
    {cd_Bremove : Value}
    {f_Binsert : Addr} {od_Binsert an_Binsert : Option Addr} {sl_Binsert : Array (Option Value)} {oc_Binsert kV_Binsert dc_Binsert pm_Binsert ct_Binsert : Value}
    {cd_Binsert : Value}
    {f_Benter : Addr} {od_Benter an_Benter : Option Addr} {sl_Benter : Array (Option Value)} {oc_Benter kV_Benter dc_Benter pm_Benter ct_Benter : Value}
    {cd_Benter : Value}
    {f_Bmatch : Addr} {od_Bmatch an_Bmatch : Option Addr} {sl_Bmatch : Array (Option Value)} {oc_Bmatch kV_Bmatch dc_Bmatch pm_Bmatch ct_Bmatch : Value}
    {cd_Bmatch : Value}
    {f_Bsettle_first : Addr} {od_Bsettle_first an_Bsettle_first : Option Addr} {sl_Bsettle_first : Array (Option Value)} {oc_Bsettle_first kV_Bsettle_first dc_Bsettle_first pm_Bsettle_first ct_Bsettle_first : Value}
    {cd_Bsettle_first : Value}
    {f_Btrigger : Addr} {od_Btrigger an_Btrigger : Option Addr} {sl_Btrigger : Array (Option Value)} {oc_Btrigger kV_Btrigger dc_Btrigger pm_Btrigger ct_Btrigger : Value}
    {cd_Btrigger : Value}
    {f_Bfirst_reached : Addr} {od_Bfirst_reached an_Bfirst_reached : Option Addr} {sl_Bfirst_reached : Array (Option Value)} {oc_Bfirst_reached kV_Bfirst_reached dc_Bfirst_reached pm_Bfirst_reached ct_Bfirst_reached : Value}
    {cd_Bfirst_reached : Value}
    {f_law_house : Addr} {od_law_house an_law_house : Option Addr} {sl_law_house : Array (Option Value)} {oc_law_house kV_law_house dc_law_house pm_law_house ct_law_house : Value}
    {cd_law_house : Value}
    {f_law_resting_side : Addr} {od_law_resting_side an_law_resting_side : Option Addr} {sl_law_resting_side : Array (Option Value)} {oc_law_resting_side kV_law_resting_side dc_law_resting_side pm_law_resting_side ct_law_resting_side : Value}
    {cd_law_resting_side : Value}
    {f_law_fits : Addr} {od_law_fits an_law_fits : Option Addr} {sl_law_fits : Array (Option Value)} {oc_law_fits kV_law_fits dc_law_fits pm_law_fits ct_law_fits : Value}
    {cd_law_fits : Value}
    {f_law_first : Addr} {od_law_first an_law_first : Option Addr} {sl_law_first : Array (Option Value)} {oc_law_first kV_law_first dc_law_first pm_law_first ct_law_first : Value}
    {cd_law_first : Value}
    {f_law_visible : Addr} {od_law_visible an_law_visible : Option Addr} {sl_law_visible : Array (Option Value)} {oc_law_visible kV_law_visible dc_law_visible pm_law_visible ct_law_visible : Value}
    {cd_law_visible : Value}
    {f_law_trade : Addr} {od_law_trade an_law_trade : Option Addr} {sl_law_trade : Array (Option Value)} {oc_law_trade kV_law_trade dc_law_trade pm_law_trade ct_law_trade : Value}
    {cd_law_trade : Value}
    {f_law_enter : Addr} {od_law_enter an_law_enter : Option Addr} {sl_law_enter : Array (Option Value)} {oc_law_enter kV_law_enter dc_law_enter pm_law_enter ct_law_enter : Value}
    {cd_law_enter : Value}
    {f_law_listed : Addr} {od_law_listed an_law_listed : Option Addr} {sl_law_listed : Array (Option Value)} {oc_law_listed kV_law_listed dc_law_listed pm_law_listed ct_law_listed : Value}
    {cd_law_listed : Value}
    {f_law_reached : Addr} {od_law_reached an_law_reached : Option Addr} {sl_law_reached : Array (Option Value)} {oc_law_reached kV_law_reached dc_law_reached pm_law_reached ct_law_reached : Value}
    {cd_law_reached : Value}
    {f_law_last : Addr} {od_law_last an_law_last : Option Addr} {sl_law_last : Array (Option Value)} {oc_law_last kV_law_last dc_law_last pm_law_last ct_law_last : Value}
    {cd_law_last : Value}
    {f_law_triggered : Addr} {od_law_triggered an_law_triggered : Option Addr} {sl_law_triggered : Array (Option Value)} {oc_law_triggered kV_law_triggered dc_law_triggered pm_law_triggered ct_law_triggered : Value}
    {cd_law_triggered : Value}
    {f_law_told : Addr} {od_law_told an_law_told : Option Addr} {sl_law_told : Array (Option Value)} {oc_law_told kV_law_told dc_law_told pm_law_told ct_law_told : Value}
    {cd_law_told : Value}
    {f_law_submit : Addr} {od_law_submit an_law_submit : Option Addr} {sl_law_submit : Array (Option Value)} {oc_law_submit kV_law_submit dc_law_submit pm_law_submit ct_law_submit : Value}
    {cd_law_submit : Value}
    {f_law_cancel : Addr} {od_law_cancel an_law_cancel : Option Addr} {sl_law_cancel : Array (Option Value)} {oc_law_cancel kV_law_cancel dc_law_cancel pm_law_cancel ct_law_cancel : Value}
    {cd_law_cancel : Value}
    {f_law_amend : Addr} {od_law_amend an_law_amend : Option Addr} {sl_law_amend : Array (Option Value)} {oc_law_amend kV_law_amend dc_law_amend pm_law_amend ct_law_amend : Value}
    {cd_law_amend : Value}
    {f_law : Addr} {od_law an_law : Option Addr} {sl_law : Array (Option Value)} {oc_law kV_law dc_law pm_law ct_law : Value}
    {cL PL : Addr} {ocL : Value} {odL : Option Addr} {vsL : Array Value} {slL : Array (Option Value)}
    {tG : Tok} {adS adK : Addr} {odS odK : Option Addr} {nS nK : Nat} {slS slK : Array (Option Value)} {tS1 tS2 tK1 tK2 tK3 : Tok}
    (HT : ∀ c P : Addr, PySem.W.tabIn K "law" = some (c, P) → PySem.W.CodeHd h c P ∧ h.get? P = some { cls := .none, data := .fields #[] })
    (aO : PySem.W.nsIn K mainGlobals "Order" = some (some (.ref CO)))
    (aR : PySem.W.nsIn K mainGlobals "Report" = some (some (.ref CR)))
    (aS : PySem.W.nsIn K mainGlobals "Stop" = some (some (.ref CS)))
    (aB : PySem.W.nsIn K mainGlobals "Book" = some (some (.ref CB)))
    (pgO : PySem.W.plainGet K CO Str.empty = true)
    (hdO : PySem.W.hasDictIn K CO = true)
    (poO : PySem.W.plainOver K CO = true)
    (saO : PySem.W.findIn K (.ref CO) "__setattr__" = some (some (.builtin "object.__setattr__")))
    (mkO : PySem.W.makesIn K CO = true)
    (kcO : PySem.W.keepIn K (.ref CO) = true)
    (nO_number : PySem.W.findIn K (.ref CO) "number" = some none)
    (nO_house : PySem.W.findIn K (.ref CO) "house" = some none)
    (nO_side : PySem.W.findIn K (.ref CO) "side" = some none)
    (nO_price : PySem.W.findIn K (.ref CO) "price" = some none)
    (nO_left : PySem.W.findIn K (.ref CO) "left" = some none)
    (nO_shown : PySem.W.findIn K (.ref CO) "shown" = some none)
    (nO_visible : PySem.W.findIn K (.ref CO) "visible" = some none)
    (pgR : PySem.W.plainGet K CR Str.empty = true)
    (hdR : PySem.W.hasDictIn K CR = true)
    (poR : PySem.W.plainOver K CR = true)
    (saR : PySem.W.findIn K (.ref CR) "__setattr__" = some (some (.builtin "object.__setattr__")))
    (mkR : PySem.W.makesIn K CR = true)
    (kcR : PySem.W.keepIn K (.ref CR) = true)
    (nR_number : PySem.W.findIn K (.ref CR) "number" = some none)
    (nR_house : PySem.W.findIn K (.ref CR) "house" = some none)
    (nR_side : PySem.W.findIn K (.ref CR) "side" = some none)
    (nR_fills : PySem.W.findIn K (.ref CR) "fills" = some none)
    (nR_removed : PySem.W.findIn K (.ref CR) "removed" = some none)
    (nR_resting : PySem.W.findIn K (.ref CR) "resting" = some none)
    (pgS : PySem.W.plainGet K CS Str.empty = true)
    (hdS : PySem.W.hasDictIn K CS = true)
    (poS : PySem.W.plainOver K CS = true)
    (saS : PySem.W.findIn K (.ref CS) "__setattr__" = some (some (.builtin "object.__setattr__")))
    (mkS : PySem.W.makesIn K CS = true)
    (kcS : PySem.W.keepIn K (.ref CS) = true)
    (nS_number : PySem.W.findIn K (.ref CS) "number" = some none)
    (nS_house : PySem.W.findIn K (.ref CS) "house" = some none)
    (nS_side : PySem.W.findIn K (.ref CS) "side" = some none)
    (nS_trigger : PySem.W.findIn K (.ref CS) "trigger" = some none)
    (nS_price : PySem.W.findIn K (.ref CS) "price" = some none)
    (nS_quantity : PySem.W.findIn K (.ref CS) "quantity" = some none)
    (pgB : PySem.W.plainGet K CB Str.empty = true)
    (hdB : PySem.W.hasDictIn K CB = true)
    (poB : PySem.W.plainOver K CB = true)
    (saB : PySem.W.findIn K (.ref CB) "__setattr__" = some (some (.builtin "object.__setattr__")))
    (mkB : PySem.W.makesIn K CB = true)
    (kcB : PySem.W.keepIn K (.ref CB) = true)
    (nB_resting : PySem.W.findIn K (.ref CB) "_resting" = some none)
    (nB_stops : PySem.W.findIn K (.ref CB) "_stops" = some none)
    (nB_next_number : PySem.W.findIn K (.ref CB) "_next_number" = some none)
    (nB_last : PySem.W.findIn K (.ref CB) "last" = some none)
    (a_is_integer : PySem.W.nsIn K mainGlobals "is_integer" = some (some (.ref f_is_integer)))
    (l_is_integer : K.lookup f_is_integer = some ⟨oc_is_integer, od_is_integer, .func (PySem.W.fnOf "is_integer" "is_integer" (defArgs s_is_integer) (defBody s_is_integer) (defScope s_is_integer) .none kV_is_integer dc_is_integer pm_is_integer an_is_integer cd_is_integer ct_is_integer), sl_is_integer⟩)
    (c_is_integer : PySem.W.codeIn K cd_is_integer "is_integer" = true)
    (k_is_integer : PySem.W.keepIn K (.ref f_is_integer) = true)
    (a_in_range : PySem.W.nsIn K mainGlobals "in_range" = some (some (.ref f_in_range)))
    (l_in_range : K.lookup f_in_range = some ⟨oc_in_range, od_in_range, .func (PySem.W.fnOf "in_range" "in_range" (defArgs s_in_range) (defBody s_in_range) (defScope s_in_range) .none kV_in_range dc_in_range pm_in_range an_in_range cd_in_range ct_in_range), sl_in_range⟩)
    (c_in_range : PySem.W.codeIn K cd_in_range "in_range" = true)
    (k_in_range : PySem.W.keepIn K (.ref f_in_range) = true)
    (a_Oinit : PySem.W.findIn K (.ref CO) "__init__" = some (some (.ref f_Oinit)))
    (i_Oinit : PySem.W.isFn K (.ref f_Oinit) = true)
    (l_Oinit : K.lookup f_Oinit = some ⟨oc_Oinit, od_Oinit, .func (PySem.W.fnOf "__init__" "Order.__init__" (defArgs s_Oinit) (defBody s_Oinit) (defScope s_Oinit) .none kV_Oinit dc_Oinit pm_Oinit an_Oinit cd_Oinit ct_Oinit), sl_Oinit⟩)
    (c_Oinit : PySem.W.codeIn K cd_Oinit "Order.__init__" = true)
    (k_Oinit : PySem.W.keepIn K (.ref f_Oinit) = true)
    (a_Oshow_next_part : PySem.W.findIn K (.ref CO) "show_next_part" = some (some (.ref f_Oshow_next_part)))
    (i_Oshow_next_part : PySem.W.isFn K (.ref f_Oshow_next_part) = true)
    (l_Oshow_next_part : K.lookup f_Oshow_next_part = some ⟨oc_Oshow_next_part, od_Oshow_next_part, .func (PySem.W.fnOf "show_next_part" "Order.show_next_part" (defArgs s_Oshow_next_part) (defBody s_Oshow_next_part) (defScope s_Oshow_next_part) .none kV_Oshow_next_part dc_Oshow_next_part pm_Oshow_next_part an_Oshow_next_part cd_Oshow_next_part ct_Oshow_next_part), sl_Oshow_next_part⟩)
    (c_Oshow_next_part : PySem.W.codeIn K cd_Oshow_next_part "Order.show_next_part" = true)
    (k_Oshow_next_part : PySem.W.keepIn K (.ref f_Oshow_next_part) = true)
    (a_Otake : PySem.W.findIn K (.ref CO) "take" = some (some (.ref f_Otake)))
    (i_Otake : PySem.W.isFn K (.ref f_Otake) = true)
    (l_Otake : K.lookup f_Otake = some ⟨oc_Otake, od_Otake, .func (PySem.W.fnOf "take" "Order.take" (defArgs s_Otake) (defBody s_Otake) (defScope s_Otake) .none kV_Otake dc_Otake pm_Otake an_Otake cd_Otake ct_Otake), sl_Otake⟩)
    (c_Otake : PySem.W.codeIn K cd_Otake "Order.take" = true)
    (k_Otake : PySem.W.keepIn K (.ref f_Otake) = true)
    (a_Oreduce : PySem.W.findIn K (.ref CO) "reduce" = some (some (.ref f_Oreduce)))
    (i_Oreduce : PySem.W.isFn K (.ref f_Oreduce) = true)
    (l_Oreduce : K.lookup f_Oreduce = some ⟨oc_Oreduce, od_Oreduce, .func (PySem.W.fnOf "reduce" "Order.reduce" (defArgs s_Oreduce) (defBody s_Oreduce) (defScope s_Oreduce) .none kV_Oreduce dc_Oreduce pm_Oreduce an_Oreduce cd_Oreduce ct_Oreduce), sl_Oreduce⟩)
    (c_Oreduce : PySem.W.codeIn K cd_Oreduce "Order.reduce" = true)
    (k_Oreduce : PySem.W.keepIn K (.ref f_Oreduce) = true)
    (a_Oentry : PySem.W.findIn K (.ref CO) "entry" = some (some (.ref f_Oentry)))
    (i_Oentry : PySem.W.isFn K (.ref f_Oentry) = true)
    (l_Oentry : K.lookup f_Oentry = some ⟨oc_Oentry, od_Oentry, .func (PySem.W.fnOf "entry" "Order.entry" (defArgs s_Oentry) (defBody s_Oentry) (defScope s_Oentry) .none kV_Oentry dc_Oentry pm_Oentry an_Oentry cd_Oentry ct_Oentry), sl_Oentry⟩)
    (c_Oentry : PySem.W.codeIn K cd_Oentry "Order.entry" = true)
    (k_Oentry : PySem.W.keepIn K (.ref f_Oentry) = true)
    (a_other_side : PySem.W.nsIn K mainGlobals "other_side" = some (some (.ref f_other_side)))
    (l_other_side : K.lookup f_other_side = some ⟨oc_other_side, od_other_side, .func (PySem.W.fnOf "other_side" "other_side" (defArgs s_other_side) (defBody s_other_side) (defScope s_other_side) .none kV_other_side dc_other_side pm_other_side an_other_side cd_other_side ct_other_side), sl_other_side⟩)
    (c_other_side : PySem.W.codeIn K cd_other_side "other_side" = true)
    (k_other_side : PySem.W.keepIn K (.ref f_other_side) = true)
    (a_is_better : PySem.W.nsIn K mainGlobals "is_better" = some (some (.ref f_is_better)))
    (l_is_better : K.lookup f_is_better = some ⟨oc_is_better, od_is_better, .func (PySem.W.fnOf "is_better" "is_better" (defArgs s_is_better) (defBody s_is_better) (defScope s_is_better) .none kV_is_better dc_is_better pm_is_better an_is_better cd_is_better ct_is_better), sl_is_better⟩)
    (c_is_better : PySem.W.codeIn K cd_is_better "is_better" = true)
    (k_is_better : PySem.W.keepIn K (.ref f_is_better) = true)
    (a_accepts : PySem.W.nsIn K mainGlobals "accepts" = some (some (.ref f_accepts)))
    (l_accepts : K.lookup f_accepts = some ⟨oc_accepts, od_accepts, .func (PySem.W.fnOf "accepts" "accepts" (defArgs s_accepts) (defBody s_accepts) (defScope s_accepts) .none kV_accepts dc_accepts pm_accepts an_accepts cd_accepts ct_accepts), sl_accepts⟩)
    (c_accepts : PySem.W.codeIn K cd_accepts "accepts" = true)
    (k_accepts : PySem.W.keepIn K (.ref f_accepts) = true)
    (a_check_order : PySem.W.nsIn K mainGlobals "check_order" = some (some (.ref f_check_order)))
    (l_check_order : K.lookup f_check_order = some ⟨oc_check_order, od_check_order, .func (PySem.W.fnOf "check_order" "check_order" (defArgs s_check_order) (defBody s_check_order) (defScope s_check_order) .none kV_check_order dc_check_order pm_check_order an_check_order cd_check_order ct_check_order), sl_check_order⟩)
    (c_check_order : PySem.W.codeIn K cd_check_order "check_order" = true)
    (k_check_order : PySem.W.keepIn K (.ref f_check_order) = true)
    (a_check_stop : PySem.W.nsIn K mainGlobals "check_stop" = some (some (.ref f_check_stop)))
    (l_check_stop : K.lookup f_check_stop = some ⟨oc_check_stop, od_check_stop, .func (PySem.W.fnOf "check_stop" "check_stop" (defArgs s_check_stop) (defBody s_check_stop) (defScope s_check_stop) .none kV_check_stop dc_check_stop pm_check_stop an_check_stop cd_check_stop ct_check_stop), sl_check_stop⟩)
    (c_check_stop : PySem.W.codeIn K cd_check_stop "check_stop" = true)
    (k_check_stop : PySem.W.keepIn K (.ref f_check_stop) = true)
    (a_Rinit : PySem.W.findIn K (.ref CR) "__init__" = some (some (.ref f_Rinit)))
    (i_Rinit : PySem.W.isFn K (.ref f_Rinit) = true)
    (l_Rinit : K.lookup f_Rinit = some ⟨oc_Rinit, od_Rinit, .func (PySem.W.fnOf "__init__" "Report.__init__" (defArgs s_Rinit) (defBody s_Rinit) (defScope s_Rinit) .none kV_Rinit dc_Rinit pm_Rinit an_Rinit cd_Rinit ct_Rinit), sl_Rinit⟩)
    (c_Rinit : PySem.W.codeIn K cd_Rinit "Report.__init__" = true)
    (k_Rinit : PySem.W.keepIn K (.ref f_Rinit) = true)
    (a_Sinit : PySem.W.findIn K (.ref CS) "__init__" = some (some (.ref f_Sinit)))
    (i_Sinit : PySem.W.isFn K (.ref f_Sinit) = true)
    (l_Sinit : K.lookup f_Sinit = some ⟨oc_Sinit, od_Sinit, .func (PySem.W.fnOf "__init__" "Stop.__init__" (defArgs s_Sinit) (defBody s_Sinit) (defScope s_Sinit) .none kV_Sinit dc_Sinit pm_Sinit an_Sinit cd_Sinit ct_Sinit), sl_Sinit⟩)
    (c_Sinit : PySem.W.codeIn K cd_Sinit "Stop.__init__" = true)
    (k_Sinit : PySem.W.keepIn K (.ref f_Sinit) = true)
    (a_Sis_reached : PySem.W.findIn K (.ref CS) "is_reached" = some (some (.ref f_Sis_reached)))
    (i_Sis_reached : PySem.W.isFn K (.ref f_Sis_reached) = true)
    (l_Sis_reached : K.lookup f_Sis_reached = some ⟨oc_Sis_reached, od_Sis_reached, .func (PySem.W.fnOf "is_reached" "Stop.is_reached" (defArgs s_Sis_reached) (defBody s_Sis_reached) (defScope s_Sis_reached) .none kV_Sis_reached dc_Sis_reached pm_Sis_reached an_Sis_reached cd_Sis_reached ct_Sis_reached), sl_Sis_reached⟩)
    (c_Sis_reached : PySem.W.codeIn K cd_Sis_reached "Stop.is_reached" = true)
    (k_Sis_reached : PySem.W.keepIn K (.ref f_Sis_reached) = true)
    (a_Sentry : PySem.W.findIn K (.ref CS) "entry" = some (some (.ref f_Sentry)))
    (i_Sentry : PySem.W.isFn K (.ref f_Sentry) = true)
    (l_Sentry : K.lookup f_Sentry = some ⟨oc_Sentry, od_Sentry, .func (PySem.W.fnOf "entry" "Stop.entry" (defArgs s_Sentry) (defBody s_Sentry) (defScope s_Sentry) .none kV_Sentry dc_Sentry pm_Sentry an_Sentry cd_Sentry ct_Sentry), sl_Sentry⟩)
    (c_Sentry : PySem.W.codeIn K cd_Sentry "Stop.entry" = true)
    (k_Sentry : PySem.W.keepIn K (.ref f_Sentry) = true)
    (a_Binit : PySem.W.findIn K (.ref CB) "__init__" = some (some (.ref f_Binit)))
    (i_Binit : PySem.W.isFn K (.ref f_Binit) = true)
    (l_Binit : K.lookup f_Binit = some ⟨oc_Binit, od_Binit, .func (PySem.W.fnOf "__init__" "Book.__init__" (defArgs s_Binit) (defBody s_Binit) (defScope s_Binit) (.ref TB) kV_Binit dc_Binit pm_Binit an_Binit cd_Binit ct_Binit), sl_Binit⟩)
    (c_Binit : PySem.W.codeIn K cd_Binit "Book.__init__" = true)
    (k_Binit : PySem.W.keepIn K (.ref f_Binit) = true)
    (lT : K.lookup TB = some ⟨ocT, odT, .seq #[.int 1 tT] nT, slT⟩)
    (a_Borders : PySem.W.findIn K (.ref CB) "orders" = some (some (.ref f_Borders)))
    (i_Borders : PySem.W.isFn K (.ref f_Borders) = true)
    (l_Borders : K.lookup f_Borders = some ⟨oc_Borders, od_Borders, .func (PySem.W.fnOf "orders" "Book.orders" (defArgs s_Borders) (defBody s_Borders) (defScope s_Borders) .none kV_Borders dc_Borders pm_Borders an_Borders cd_Borders ct_Borders), sl_Borders⟩)
    (c_Borders : PySem.W.codeIn K cd_Borders "Book.orders" = true)
    (k_Borders : PySem.W.keepIn K (.ref f_Borders) = true)
    (a_Bstops : PySem.W.findIn K (.ref CB) "stops" = some (some (.ref f_Bstops)))
    (i_Bstops : PySem.W.isFn K (.ref f_Bstops) = true)
    (l_Bstops : K.lookup f_Bstops = some ⟨oc_Bstops, od_Bstops, .func (PySem.W.fnOf "stops" "Book.stops" (defArgs s_Bstops) (defBody s_Bstops) (defScope s_Bstops) .none kV_Bstops dc_Bstops pm_Bstops an_Bstops cd_Bstops ct_Bstops), sl_Bstops⟩)
    (c_Bstops : PySem.W.codeIn K cd_Bstops "Book.stops" = true)
    (k_Bstops : PySem.W.keepIn K (.ref f_Bstops) = true)
    (a_Bsubmit : PySem.W.findIn K (.ref CB) "submit" = some (some (.ref f_Bsubmit)))
    (i_Bsubmit : PySem.W.isFn K (.ref f_Bsubmit) = true)
    (l_Bsubmit : K.lookup f_Bsubmit = some ⟨oc_Bsubmit, od_Bsubmit, .func (PySem.W.fnOf "submit" "Book.submit" (defArgs s_Bsubmit) (defBody s_Bsubmit) (defScope s_Bsubmit) .none kV_Bsubmit dc_Bsubmit pm_Bsubmit an_Bsubmit cd_Bsubmit ct_Bsubmit), sl_Bsubmit⟩)
    (c_Bsubmit : PySem.W.codeIn K cd_Bsubmit "Book.submit" = true)
    (k_Bsubmit : PySem.W.keepIn K (.ref f_Bsubmit) = true)
    (a_Bsubmit_stop : PySem.W.findIn K (.ref CB) "submit_stop" = some (some (.ref f_Bsubmit_stop)))
    (i_Bsubmit_stop : PySem.W.isFn K (.ref f_Bsubmit_stop) = true)
    (l_Bsubmit_stop : K.lookup f_Bsubmit_stop = some ⟨oc_Bsubmit_stop, od_Bsubmit_stop, .func (PySem.W.fnOf "submit_stop" "Book.submit_stop" (defArgs s_Bsubmit_stop) (defBody s_Bsubmit_stop) (defScope s_Bsubmit_stop) .none kV_Bsubmit_stop dc_Bsubmit_stop pm_Bsubmit_stop an_Bsubmit_stop cd_Bsubmit_stop ct_Bsubmit_stop), sl_Bsubmit_stop⟩)
    (c_Bsubmit_stop : PySem.W.codeIn K cd_Bsubmit_stop "Book.submit_stop" = true)
    (k_Bsubmit_stop : PySem.W.keepIn K (.ref f_Bsubmit_stop) = true)
    (a_Bcancel : PySem.W.findIn K (.ref CB) "cancel" = some (some (.ref f_Bcancel)))
    (i_Bcancel : PySem.W.isFn K (.ref f_Bcancel) = true)
    (l_Bcancel : K.lookup f_Bcancel = some ⟨oc_Bcancel, od_Bcancel, .func (PySem.W.fnOf "cancel" "Book.cancel" (defArgs s_Bcancel) (defBody s_Bcancel) (defScope s_Bcancel) .none kV_Bcancel dc_Bcancel pm_Bcancel an_Bcancel cd_Bcancel ct_Bcancel), sl_Bcancel⟩)
    (c_Bcancel : PySem.W.codeIn K cd_Bcancel "Book.cancel" = true)
    (k_Bcancel : PySem.W.keepIn K (.ref f_Bcancel) = true)
    (a_Bamend : PySem.W.findIn K (.ref CB) "amend" = some (some (.ref f_Bamend)))
    (i_Bamend : PySem.W.isFn K (.ref f_Bamend) = true)
    (l_Bamend : K.lookup f_Bamend = some ⟨oc_Bamend, od_Bamend, .func (PySem.W.fnOf "amend" "Book.amend" (defArgs s_Bamend) (defBody s_Bamend) (defScope s_Bamend) .none kV_Bamend dc_Bamend pm_Bamend an_Bamend cd_Bamend ct_Bamend), sl_Bamend⟩)
    (c_Bamend : PySem.W.codeIn K cd_Bamend "Book.amend" = true)
    (k_Bamend : PySem.W.keepIn K (.ref f_Bamend) = true)
    (a_Bnew_number : PySem.W.findIn K (.ref CB) "_new_number" = some (some (.ref f_Bnew_number)))
    (i_Bnew_number : PySem.W.isFn K (.ref f_Bnew_number) = true)
    (l_Bnew_number : K.lookup f_Bnew_number = some ⟨oc_Bnew_number, od_Bnew_number, .func (PySem.W.fnOf "_new_number" "Book._new_number" (defArgs s_Bnew_number) (defBody s_Bnew_number) (defScope s_Bnew_number) .none kV_Bnew_number dc_Bnew_number pm_Bnew_number an_Bnew_number cd_Bnew_number ct_Bnew_number), sl_Bnew_number⟩)
    (c_Bnew_number : PySem.W.codeIn K cd_Bnew_number "Book._new_number" = true)
    (k_Bnew_number : PySem.W.keepIn K (.ref f_Bnew_number) = true)
    (a_Bowned : PySem.W.findIn K (.ref CB) "_owned" = some (some (.ref f_Bowned)))
    (i_Bowned : PySem.W.isFn K (.ref f_Bowned) = true)
    (l_Bowned : K.lookup f_Bowned = some ⟨oc_Bowned, od_Bowned, .func (PySem.W.fnOf "_owned" "Book._owned" (defArgs s_Bowned) (defBody s_Bowned) (defScope s_Bowned) .none kV_Bowned dc_Bowned pm_Bowned an_Bowned cd_Bowned ct_Bowned), sl_Bowned⟩)
    (c_Bowned : PySem.W.codeIn K cd_Bowned "Book._owned" = true)
    (k_Bowned : PySem.W.keepIn K (.ref f_Bowned) = true)
    (a_Bremove : PySem.W.findIn K (.ref CB) "_remove" = some (some (.ref f_Bremove)))
    (i_Bremove : PySem.W.isFn K (.ref f_Bremove) = true)
    (l_Bremove : K.lookup f_Bremove = some ⟨oc_Bremove, od_Bremove, .func (PySem.W.fnOf "_remove" "Book._remove" (defArgs s_Bremove) (defBody s_Bremove) (defScope s_Bremove) .none kV_Bremove dc_Bremove pm_Bremove an_Bremove cd_Bremove ct_Bremove), sl_Bremove⟩)
    (c_Bremove : PySem.W.codeIn K cd_Bremove "Book._remove" = true)
    (k_Bremove : PySem.W.keepIn K (.ref f_Bremove) = true)
    (a_Binsert : PySem.W.findIn K (.ref CB) "_insert" = some (some (.ref f_Binsert)))
    (i_Binsert : PySem.W.isFn K (.ref f_Binsert) = true)
    (l_Binsert : K.lookup f_Binsert = some ⟨oc_Binsert, od_Binsert, .func (PySem.W.fnOf "_insert" "Book._insert" (defArgs s_Binsert) (defBody s_Binsert) (defScope s_Binsert) .none kV_Binsert dc_Binsert pm_Binsert an_Binsert cd_Binsert ct_Binsert), sl_Binsert⟩)
    (c_Binsert : PySem.W.codeIn K cd_Binsert "Book._insert" = true)
    (k_Binsert : PySem.W.keepIn K (.ref f_Binsert) = true)
    (a_Benter : PySem.W.findIn K (.ref CB) "_enter" = some (some (.ref f_Benter)))
    (i_Benter : PySem.W.isFn K (.ref f_Benter) = true)
    (l_Benter : K.lookup f_Benter = some ⟨oc_Benter, od_Benter, .func (PySem.W.fnOf "_enter" "Book._enter" (defArgs s_Benter) (defBody s_Benter) (defScope s_Benter) .none kV_Benter dc_Benter pm_Benter an_Benter cd_Benter ct_Benter), sl_Benter⟩)
    (c_Benter : PySem.W.codeIn K cd_Benter "Book._enter" = true)
    (k_Benter : PySem.W.keepIn K (.ref f_Benter) = true)
    (a_Bmatch : PySem.W.findIn K (.ref CB) "_match" = some (some (.ref f_Bmatch)))
    (i_Bmatch : PySem.W.isFn K (.ref f_Bmatch) = true)
    (l_Bmatch : K.lookup f_Bmatch = some ⟨oc_Bmatch, od_Bmatch, .func (PySem.W.fnOf "_match" "Book._match" (defArgs s_Bmatch) (defBody s_Bmatch) (defScope s_Bmatch) .none kV_Bmatch dc_Bmatch pm_Bmatch an_Bmatch cd_Bmatch ct_Bmatch), sl_Bmatch⟩)
    (c_Bmatch : PySem.W.codeIn K cd_Bmatch "Book._match" = true)
    (k_Bmatch : PySem.W.keepIn K (.ref f_Bmatch) = true)
    (a_Bsettle_first : PySem.W.findIn K (.ref CB) "_settle_first" = some (some (.ref f_Bsettle_first)))
    (i_Bsettle_first : PySem.W.isFn K (.ref f_Bsettle_first) = true)
    (l_Bsettle_first : K.lookup f_Bsettle_first = some ⟨oc_Bsettle_first, od_Bsettle_first, .func (PySem.W.fnOf "_settle_first" "Book._settle_first" (defArgs s_Bsettle_first) (defBody s_Bsettle_first) (defScope s_Bsettle_first) .none kV_Bsettle_first dc_Bsettle_first pm_Bsettle_first an_Bsettle_first cd_Bsettle_first ct_Bsettle_first), sl_Bsettle_first⟩)
    (c_Bsettle_first : PySem.W.codeIn K cd_Bsettle_first "Book._settle_first" = true)
    (k_Bsettle_first : PySem.W.keepIn K (.ref f_Bsettle_first) = true)
    (a_Btrigger : PySem.W.findIn K (.ref CB) "_trigger" = some (some (.ref f_Btrigger)))
    (i_Btrigger : PySem.W.isFn K (.ref f_Btrigger) = true)
    (l_Btrigger : K.lookup f_Btrigger = some ⟨oc_Btrigger, od_Btrigger, .func (PySem.W.fnOf "_trigger" "Book._trigger" (defArgs s_Btrigger) (defBody s_Btrigger) (defScope s_Btrigger) .none kV_Btrigger dc_Btrigger pm_Btrigger an_Btrigger cd_Btrigger ct_Btrigger), sl_Btrigger⟩)
    (c_Btrigger : PySem.W.codeIn K cd_Btrigger "Book._trigger" = true)
    (k_Btrigger : PySem.W.keepIn K (.ref f_Btrigger) = true)
    (a_Bfirst_reached : PySem.W.findIn K (.ref CB) "_first_reached" = some (some (.ref f_Bfirst_reached)))
    (i_Bfirst_reached : PySem.W.isFn K (.ref f_Bfirst_reached) = true)
    (l_Bfirst_reached : K.lookup f_Bfirst_reached = some ⟨oc_Bfirst_reached, od_Bfirst_reached, .func (PySem.W.fnOf "_first_reached" "Book._first_reached" (defArgs s_Bfirst_reached) (defBody s_Bfirst_reached) (defScope s_Bfirst_reached) .none kV_Bfirst_reached dc_Bfirst_reached pm_Bfirst_reached an_Bfirst_reached cd_Bfirst_reached ct_Bfirst_reached), sl_Bfirst_reached⟩)
    (c_Bfirst_reached : PySem.W.codeIn K cd_Bfirst_reached "Book._first_reached" = true)
    (k_Bfirst_reached : PySem.W.keepIn K (.ref f_Bfirst_reached) = true)
    (a_law_house : PySem.W.nsIn K mainGlobals "_law_house" = some (some (.ref f_law_house)))
    (l_law_house : K.lookup f_law_house = some ⟨oc_law_house, od_law_house, .func (PySem.W.fnOf "_law_house" "_law_house" (defArgs s_law_house) (defBody s_law_house) (defScope s_law_house) .none kV_law_house dc_law_house pm_law_house an_law_house cd_law_house ct_law_house), sl_law_house⟩)
    (c_law_house : PySem.W.codeIn K cd_law_house "_law_house" = true)
    (k_law_house : PySem.W.keepIn K (.ref f_law_house) = true)
    (a_law_resting_side : PySem.W.nsIn K mainGlobals "_law_resting_side" = some (some (.ref f_law_resting_side)))
    (l_law_resting_side : K.lookup f_law_resting_side = some ⟨oc_law_resting_side, od_law_resting_side, .func (PySem.W.fnOf "_law_resting_side" "_law_resting_side" (defArgs s_law_resting_side) (defBody s_law_resting_side) (defScope s_law_resting_side) .none kV_law_resting_side dc_law_resting_side pm_law_resting_side an_law_resting_side cd_law_resting_side ct_law_resting_side), sl_law_resting_side⟩)
    (c_law_resting_side : PySem.W.codeIn K cd_law_resting_side "_law_resting_side" = true)
    (k_law_resting_side : PySem.W.keepIn K (.ref f_law_resting_side) = true)
    (a_law_fits : PySem.W.nsIn K mainGlobals "_law_fits" = some (some (.ref f_law_fits)))
    (l_law_fits : K.lookup f_law_fits = some ⟨oc_law_fits, od_law_fits, .func (PySem.W.fnOf "_law_fits" "_law_fits" (defArgs s_law_fits) (defBody s_law_fits) (defScope s_law_fits) .none kV_law_fits dc_law_fits pm_law_fits an_law_fits cd_law_fits ct_law_fits), sl_law_fits⟩)
    (c_law_fits : PySem.W.codeIn K cd_law_fits "_law_fits" = true)
    (k_law_fits : PySem.W.keepIn K (.ref f_law_fits) = true)
    (a_law_first : PySem.W.nsIn K mainGlobals "_law_first" = some (some (.ref f_law_first)))
    (l_law_first : K.lookup f_law_first = some ⟨oc_law_first, od_law_first, .func (PySem.W.fnOf "_law_first" "_law_first" (defArgs s_law_first) (defBody s_law_first) (defScope s_law_first) .none kV_law_first dc_law_first pm_law_first an_law_first cd_law_first ct_law_first), sl_law_first⟩)
    (c_law_first : PySem.W.codeIn K cd_law_first "_law_first" = true)
    (k_law_first : PySem.W.keepIn K (.ref f_law_first) = true)
    (a_law_visible : PySem.W.nsIn K mainGlobals "_law_visible" = some (some (.ref f_law_visible)))
    (l_law_visible : K.lookup f_law_visible = some ⟨oc_law_visible, od_law_visible, .func (PySem.W.fnOf "_law_visible" "_law_visible" (defArgs s_law_visible) (defBody s_law_visible) (defScope s_law_visible) .none kV_law_visible dc_law_visible pm_law_visible an_law_visible cd_law_visible ct_law_visible), sl_law_visible⟩)
    (c_law_visible : PySem.W.codeIn K cd_law_visible "_law_visible" = true)
    (k_law_visible : PySem.W.keepIn K (.ref f_law_visible) = true)
    (a_law_trade : PySem.W.nsIn K mainGlobals "_law_trade" = some (some (.ref f_law_trade)))
    (l_law_trade : K.lookup f_law_trade = some ⟨oc_law_trade, od_law_trade, .func (PySem.W.fnOf "_law_trade" "_law_trade" (defArgs s_law_trade) (defBody s_law_trade) (defScope s_law_trade) .none kV_law_trade dc_law_trade pm_law_trade an_law_trade cd_law_trade ct_law_trade), sl_law_trade⟩)
    (c_law_trade : PySem.W.codeIn K cd_law_trade "_law_trade" = true)
    (k_law_trade : PySem.W.keepIn K (.ref f_law_trade) = true)
    (a_law_enter : PySem.W.nsIn K mainGlobals "_law_enter" = some (some (.ref f_law_enter)))
    (l_law_enter : K.lookup f_law_enter = some ⟨oc_law_enter, od_law_enter, .func (PySem.W.fnOf "_law_enter" "_law_enter" (defArgs s_law_enter) (defBody s_law_enter) (defScope s_law_enter) .none kV_law_enter dc_law_enter pm_law_enter an_law_enter cd_law_enter ct_law_enter), sl_law_enter⟩)
    (c_law_enter : PySem.W.codeIn K cd_law_enter "_law_enter" = true)
    (k_law_enter : PySem.W.keepIn K (.ref f_law_enter) = true)
    (a_law_listed : PySem.W.nsIn K mainGlobals "_law_listed" = some (some (.ref f_law_listed)))
    (l_law_listed : K.lookup f_law_listed = some ⟨oc_law_listed, od_law_listed, .func (PySem.W.fnOf "_law_listed" "_law_listed" (defArgs s_law_listed) (defBody s_law_listed) (defScope s_law_listed) .none kV_law_listed dc_law_listed pm_law_listed an_law_listed cd_law_listed ct_law_listed), sl_law_listed⟩)
    (c_law_listed : PySem.W.codeIn K cd_law_listed "_law_listed" = true)
    (k_law_listed : PySem.W.keepIn K (.ref f_law_listed) = true)
    (a_law_reached : PySem.W.nsIn K mainGlobals "_law_reached" = some (some (.ref f_law_reached)))
    (l_law_reached : K.lookup f_law_reached = some ⟨oc_law_reached, od_law_reached, .func (PySem.W.fnOf "_law_reached" "_law_reached" (defArgs s_law_reached) (defBody s_law_reached) (defScope s_law_reached) .none kV_law_reached dc_law_reached pm_law_reached an_law_reached cd_law_reached ct_law_reached), sl_law_reached⟩)
    (c_law_reached : PySem.W.codeIn K cd_law_reached "_law_reached" = true)
    (k_law_reached : PySem.W.keepIn K (.ref f_law_reached) = true)
    (a_law_last : PySem.W.nsIn K mainGlobals "_law_last" = some (some (.ref f_law_last)))
    (l_law_last : K.lookup f_law_last = some ⟨oc_law_last, od_law_last, .func (PySem.W.fnOf "_law_last" "_law_last" (defArgs s_law_last) (defBody s_law_last) (defScope s_law_last) .none kV_law_last dc_law_last pm_law_last an_law_last cd_law_last ct_law_last), sl_law_last⟩)
    (c_law_last : PySem.W.codeIn K cd_law_last "_law_last" = true)
    (k_law_last : PySem.W.keepIn K (.ref f_law_last) = true)
    (a_law_triggered : PySem.W.nsIn K mainGlobals "_law_triggered" = some (some (.ref f_law_triggered)))
    (l_law_triggered : K.lookup f_law_triggered = some ⟨oc_law_triggered, od_law_triggered, .func (PySem.W.fnOf "_law_triggered" "_law_triggered" (defArgs s_law_triggered) (defBody s_law_triggered) (defScope s_law_triggered) .none kV_law_triggered dc_law_triggered pm_law_triggered an_law_triggered cd_law_triggered ct_law_triggered), sl_law_triggered⟩)
    (c_law_triggered : PySem.W.codeIn K cd_law_triggered "_law_triggered" = true)
    (k_law_triggered : PySem.W.keepIn K (.ref f_law_triggered) = true)
    (a_law_told : PySem.W.nsIn K mainGlobals "_law_told" = some (some (.ref f_law_told)))
    (l_law_told : K.lookup f_law_told = some ⟨oc_law_told, od_law_told, .func (PySem.W.fnOf "_law_told" "_law_told" (defArgs s_law_told) (defBody s_law_told) (defScope s_law_told) .none kV_law_told dc_law_told pm_law_told an_law_told cd_law_told ct_law_told), sl_law_told⟩)
    (c_law_told : PySem.W.codeIn K cd_law_told "_law_told" = true)
    (k_law_told : PySem.W.keepIn K (.ref f_law_told) = true)
    (a_law_submit : PySem.W.nsIn K mainGlobals "_law_submit" = some (some (.ref f_law_submit)))
    (l_law_submit : K.lookup f_law_submit = some ⟨oc_law_submit, od_law_submit, .func (PySem.W.fnOf "_law_submit" "_law_submit" (defArgs s_law_submit) (defBody s_law_submit) (defScope s_law_submit) .none kV_law_submit dc_law_submit pm_law_submit an_law_submit cd_law_submit ct_law_submit), sl_law_submit⟩)
    (c_law_submit : PySem.W.codeIn K cd_law_submit "_law_submit" = true)
    (k_law_submit : PySem.W.keepIn K (.ref f_law_submit) = true)
    (a_law_cancel : PySem.W.nsIn K mainGlobals "_law_cancel" = some (some (.ref f_law_cancel)))
    (l_law_cancel : K.lookup f_law_cancel = some ⟨oc_law_cancel, od_law_cancel, .func (PySem.W.fnOf "_law_cancel" "_law_cancel" (defArgs s_law_cancel) (defBody s_law_cancel) (defScope s_law_cancel) .none kV_law_cancel dc_law_cancel pm_law_cancel an_law_cancel cd_law_cancel ct_law_cancel), sl_law_cancel⟩)
    (c_law_cancel : PySem.W.codeIn K cd_law_cancel "_law_cancel" = true)
    (k_law_cancel : PySem.W.keepIn K (.ref f_law_cancel) = true)
    (a_law_amend : PySem.W.nsIn K mainGlobals "_law_amend" = some (some (.ref f_law_amend)))
    (l_law_amend : K.lookup f_law_amend = some ⟨oc_law_amend, od_law_amend, .func (PySem.W.fnOf "_law_amend" "_law_amend" (defArgs s_law_amend) (defBody s_law_amend) (defScope s_law_amend) .none kV_law_amend dc_law_amend pm_law_amend an_law_amend cd_law_amend ct_law_amend), sl_law_amend⟩)
    (c_law_amend : PySem.W.codeIn K cd_law_amend "_law_amend" = true)
    (k_law_amend : PySem.W.keepIn K (.ref f_law_amend) = true)
    (a_law : PySem.W.nsIn K mainGlobals "law" = some (some (.ref f_law)))
    (l_law : K.lookup f_law = some ⟨oc_law, od_law, .func (PySem.W.fnOf "law" "law" (defArgs s_law) (defBody s_law) (defScope s_law) .none kV_law dc_law pm_law an_law (.ref cL) ct_law), sl_law⟩)
    (c_law : PySem.W.codeIn K (.ref cL) "law" = true)
    (k_law : PySem.W.keepIn K (.ref f_law) = true)
    (z_int : PySem.W.nsIn K mainGlobals "int" = some none)
    (z_bool : PySem.W.nsIn K mainGlobals "bool" = some none)
    (z_isinstance : PySem.W.nsIn K mainGlobals "isinstance" = some none)
    (z_len : PySem.W.nsIn K mainGlobals "len" = some none)
    (z_min : PySem.W.nsIn K mainGlobals "min" = some none)
    (z_range : PySem.W.nsIn K mainGlobals "range" = some none)
    (z_sorted : PySem.W.nsIn K mainGlobals "sorted" = some none)
    (aG : PySem.W.nsIn K mainGlobals "GREATEST" = some (some (.int 1000000 tG)))
    (aS_ : PySem.W.nsIn K mainGlobals "SIDES" = some (some (.ref adS)))
    (lS : K.lookup adS = some ⟨.type "tuple", odS, .seq #[.str "buy" tS1, .str "sell" tS2] nS, slS⟩)
    (aK_ : PySem.W.nsIn K mainGlobals "KINDS" = some (some (.ref adK)))
    (lK : K.lookup adK = some ⟨.type "tuple", odK, .seq #[.str "rest" tK1, .str "now" tK2, .str "all" tK3] nK, slK⟩)
    (lc : K.lookup cL = some ⟨ocL, odL, .fields vsL, slL⟩)
    (eP : (vsL[11]? : Option Value) = some (.ref PL))
    (nL : K.lookup PL = none)
    : LawAtS l w K CX0 9 63 "_law_script" mg fa h := by
  have e := hfa.symm.trans (PySem.W.mg_of X G a_law)
  cases e
  have F_is_integer := fun_mk (st := s_is_integer) l_is_integer c_is_integer k_is_integer
  have F_in_range := fun_mk (st := s_in_range) l_in_range c_in_range k_in_range
  have F_Oinit := fun_mk (st := s_Oinit) l_Oinit c_Oinit k_Oinit
  have F_Oshow_next_part := fun_mk (st := s_Oshow_next_part) l_Oshow_next_part c_Oshow_next_part k_Oshow_next_part
  have F_Otake := fun_mk (st := s_Otake) l_Otake c_Otake k_Otake
  have F_Oreduce := fun_mk (st := s_Oreduce) l_Oreduce c_Oreduce k_Oreduce
  have F_Oentry := fun_mk (st := s_Oentry) l_Oentry c_Oentry k_Oentry
  have F_other_side := fun_mk (st := s_other_side) l_other_side c_other_side k_other_side
  have F_is_better := fun_mk (st := s_is_better) l_is_better c_is_better k_is_better
  have F_accepts := fun_mk (st := s_accepts) l_accepts c_accepts k_accepts
  have F_check_order := fun_mk (st := s_check_order) l_check_order c_check_order k_check_order
  have F_check_stop := fun_mk (st := s_check_stop) l_check_stop c_check_stop k_check_stop
  have F_Rinit := fun_mk (st := s_Rinit) l_Rinit c_Rinit k_Rinit
  have F_Sinit := fun_mk (st := s_Sinit) l_Sinit c_Sinit k_Sinit
  have F_Sis_reached := fun_mk (st := s_Sis_reached) l_Sis_reached c_Sis_reached k_Sis_reached
  have F_Sentry := fun_mk (st := s_Sentry) l_Sentry c_Sentry k_Sentry
  have F_Borders := fun_mk (st := s_Borders) l_Borders c_Borders k_Borders
  have F_Bstops := fun_mk (st := s_Bstops) l_Bstops c_Bstops k_Bstops
  have F_Bsubmit := fun_mk (st := s_Bsubmit) l_Bsubmit c_Bsubmit k_Bsubmit
  have F_Bsubmit_stop := fun_mk (st := s_Bsubmit_stop) l_Bsubmit_stop c_Bsubmit_stop k_Bsubmit_stop
  have F_Bcancel := fun_mk (st := s_Bcancel) l_Bcancel c_Bcancel k_Bcancel
  have F_Bamend := fun_mk (st := s_Bamend) l_Bamend c_Bamend k_Bamend
  have F_Bnew_number := fun_mk (st := s_Bnew_number) l_Bnew_number c_Bnew_number k_Bnew_number
  have F_Bowned := fun_mk (st := s_Bowned) l_Bowned c_Bowned k_Bowned
  have F_Bremove := fun_mk (st := s_Bremove) l_Bremove c_Bremove k_Bremove
  have F_Binsert := fun_mk (st := s_Binsert) l_Binsert c_Binsert k_Binsert
  have F_Benter := fun_mk (st := s_Benter) l_Benter c_Benter k_Benter
  have F_Bmatch := fun_mk (st := s_Bmatch) l_Bmatch c_Bmatch k_Bmatch
  have F_Bsettle_first := fun_mk (st := s_Bsettle_first) l_Bsettle_first c_Bsettle_first k_Bsettle_first
  have F_Btrigger := fun_mk (st := s_Btrigger) l_Btrigger c_Btrigger k_Btrigger
  have F_Bfirst_reached := fun_mk (st := s_Bfirst_reached) l_Bfirst_reached c_Bfirst_reached k_Bfirst_reached
  have F_law_house := fun_mk (st := s_law_house) l_law_house c_law_house k_law_house
  have F_law_resting_side := fun_mk (st := s_law_resting_side) l_law_resting_side c_law_resting_side k_law_resting_side
  have F_law_fits := fun_mk (st := s_law_fits) l_law_fits c_law_fits k_law_fits
  have F_law_first := fun_mk (st := s_law_first) l_law_first c_law_first k_law_first
  have F_law_visible := fun_mk (st := s_law_visible) l_law_visible c_law_visible k_law_visible
  have F_law_trade := fun_mk (st := s_law_trade) l_law_trade c_law_trade k_law_trade
  have F_law_enter := fun_mk (st := s_law_enter) l_law_enter c_law_enter k_law_enter
  have F_law_listed := fun_mk (st := s_law_listed) l_law_listed c_law_listed k_law_listed
  have F_law_reached := fun_mk (st := s_law_reached) l_law_reached c_law_reached k_law_reached
  have F_law_last := fun_mk (st := s_law_last) l_law_last c_law_last k_law_last
  have F_law_triggered := fun_mk (st := s_law_triggered) l_law_triggered c_law_triggered k_law_triggered
  have F_law_told := fun_mk (st := s_law_told) l_law_told c_law_told k_law_told
  have F_law_submit := fun_mk (st := s_law_submit) l_law_submit c_law_submit k_law_submit
  have F_law_cancel := fun_mk (st := s_law_cancel) l_law_cancel c_law_cancel k_law_cancel
  have F_law_amend := fun_mk (st := s_law_amend) l_law_amend c_law_amend k_law_amend
  have F_law := fun_mk (st := s_law) l_law c_law k_law
  have F_Binit : FunD K "__init__" "Book.__init__" (defArgs s_Binit) (defBody s_Binit) (defScope s_Binit) [.int 1] [] f_Binit (PySem.W.fnOf "__init__" "Book.__init__" (defArgs s_Binit) (defBody s_Binit) (defScope s_Binit) (.ref TB) kV_Binit dc_Binit pm_Binit an_Binit cd_Binit ct_Binit) :=
    ⟨⟨_, _, _, _, _, _, _, _, _, _, rfl, l_Binit, c_Binit, .inr ⟨List.cons_ne_nil _ _, _, _, [.int 1 tT], nT, rfl, lT, rfl, .cons ⟨_, rfl⟩ .nil⟩, .inl rfl⟩, k_Binit⟩
  have T : Txt K mg ⟨CO, CR, CS, CB, f_is_integer, PySem.W.fnOf "is_integer" "is_integer" (defArgs s_is_integer) (defBody s_is_integer) (defScope s_is_integer) .none kV_is_integer dc_is_integer pm_is_integer an_is_integer cd_is_integer ct_is_integer, f_in_range, PySem.W.fnOf "in_range" "in_range" (defArgs s_in_range) (defBody s_in_range) (defScope s_in_range) .none kV_in_range dc_in_range pm_in_range an_in_range cd_in_range ct_in_range, f_Oinit, PySem.W.fnOf "__init__" "Order.__init__" (defArgs s_Oinit) (defBody s_Oinit) (defScope s_Oinit) .none kV_Oinit dc_Oinit pm_Oinit an_Oinit cd_Oinit ct_Oinit, f_Oshow_next_part, PySem.W.fnOf "show_next_part" "Order.show_next_part" (defArgs s_Oshow_next_part) (defBody s_Oshow_next_part) (defScope s_Oshow_next_part) .none kV_Oshow_next_part dc_Oshow_next_part pm_Oshow_next_part an_Oshow_next_part cd_Oshow_next_part ct_Oshow_next_part, f_Otake, PySem.W.fnOf "take" "Order.take" (defArgs s_Otake) (defBody s_Otake) (defScope s_Otake) .none kV_Otake dc_Otake pm_Otake an_Otake cd_Otake ct_Otake, f_Oreduce, PySem.W.fnOf "reduce" "Order.reduce" (defArgs s_Oreduce) (defBody s_Oreduce) (defScope s_Oreduce) .none kV_Oreduce dc_Oreduce pm_Oreduce an_Oreduce cd_Oreduce ct_Oreduce, f_Oentry, PySem.W.fnOf "entry" "Order.entry" (defArgs s_Oentry) (defBody s_Oentry) (defScope s_Oentry) .none kV_Oentry dc_Oentry pm_Oentry an_Oentry cd_Oentry ct_Oentry, f_other_side, PySem.W.fnOf "other_side" "other_side" (defArgs s_other_side) (defBody s_other_side) (defScope s_other_side) .none kV_other_side dc_other_side pm_other_side an_other_side cd_other_side ct_other_side, f_is_better, PySem.W.fnOf "is_better" "is_better" (defArgs s_is_better) (defBody s_is_better) (defScope s_is_better) .none kV_is_better dc_is_better pm_is_better an_is_better cd_is_better ct_is_better, f_accepts, PySem.W.fnOf "accepts" "accepts" (defArgs s_accepts) (defBody s_accepts) (defScope s_accepts) .none kV_accepts dc_accepts pm_accepts an_accepts cd_accepts ct_accepts, f_check_order, PySem.W.fnOf "check_order" "check_order" (defArgs s_check_order) (defBody s_check_order) (defScope s_check_order) .none kV_check_order dc_check_order pm_check_order an_check_order cd_check_order ct_check_order, f_check_stop, PySem.W.fnOf "check_stop" "check_stop" (defArgs s_check_stop) (defBody s_check_stop) (defScope s_check_stop) .none kV_check_stop dc_check_stop pm_check_stop an_check_stop cd_check_stop ct_check_stop, f_Rinit, PySem.W.fnOf "__init__" "Report.__init__" (defArgs s_Rinit) (defBody s_Rinit) (defScope s_Rinit) .none kV_Rinit dc_Rinit pm_Rinit an_Rinit cd_Rinit ct_Rinit, f_Sinit, PySem.W.fnOf "__init__" "Stop.__init__" (defArgs s_Sinit) (defBody s_Sinit) (defScope s_Sinit) .none kV_Sinit dc_Sinit pm_Sinit an_Sinit cd_Sinit ct_Sinit, f_Sis_reached, PySem.W.fnOf "is_reached" "Stop.is_reached" (defArgs s_Sis_reached) (defBody s_Sis_reached) (defScope s_Sis_reached) .none kV_Sis_reached dc_Sis_reached pm_Sis_reached an_Sis_reached cd_Sis_reached ct_Sis_reached, f_Sentry, PySem.W.fnOf "entry" "Stop.entry" (defArgs s_Sentry) (defBody s_Sentry) (defScope s_Sentry) .none kV_Sentry dc_Sentry pm_Sentry an_Sentry cd_Sentry ct_Sentry, f_Binit, PySem.W.fnOf "__init__" "Book.__init__" (defArgs s_Binit) (defBody s_Binit) (defScope s_Binit) (.ref TB) kV_Binit dc_Binit pm_Binit an_Binit cd_Binit ct_Binit, f_Borders, PySem.W.fnOf "orders" "Book.orders" (defArgs s_Borders) (defBody s_Borders) (defScope s_Borders) .none kV_Borders dc_Borders pm_Borders an_Borders cd_Borders ct_Borders, f_Bstops, PySem.W.fnOf "stops" "Book.stops" (defArgs s_Bstops) (defBody s_Bstops) (defScope s_Bstops) .none kV_Bstops dc_Bstops pm_Bstops an_Bstops cd_Bstops ct_Bstops, f_Bsubmit, PySem.W.fnOf "submit" "Book.submit" (defArgs s_Bsubmit) (defBody s_Bsubmit) (defScope s_Bsubmit) .none kV_Bsubmit dc_Bsubmit pm_Bsubmit an_Bsubmit cd_Bsubmit ct_Bsubmit, f_Bsubmit_stop, PySem.W.fnOf "submit_stop" "Book.submit_stop" (defArgs s_Bsubmit_stop) (defBody s_Bsubmit_stop) (defScope s_Bsubmit_stop) .none kV_Bsubmit_stop dc_Bsubmit_stop pm_Bsubmit_stop an_Bsubmit_stop cd_Bsubmit_stop ct_Bsubmit_stop, f_Bcancel, PySem.W.fnOf "cancel" "Book.cancel" (defArgs s_Bcancel) (defBody s_Bcancel) (defScope s_Bcancel) .none kV_Bcancel dc_Bcancel pm_Bcancel an_Bcancel cd_Bcancel ct_Bcancel, f_Bamend, PySem.W.fnOf "amend" "Book.amend" (defArgs s_Bamend) (defBody s_Bamend) (defScope s_Bamend) .none kV_Bamend dc_Bamend pm_Bamend an_Bamend cd_Bamend ct_Bamend, f_Bnew_number, PySem.W.fnOf "_new_number" "Book._new_number" (defArgs s_Bnew_number) (defBody s_Bnew_number) (defScope s_Bnew_number) .none kV_Bnew_number dc_Bnew_number pm_Bnew_number an_Bnew_number cd_Bnew_number ct_Bnew_number, f_Bowned, PySem.W.fnOf "_owned" "Book._owned" (defArgs s_Bowned) (defBody s_Bowned) (defScope s_Bowned) .none kV_Bowned dc_Bowned pm_Bowned an_Bowned cd_Bowned ct_Bowned, f_Bremove, PySem.W.fnOf "_remove" "Book._remove" (defArgs s_Bremove) (defBody s_Bremove) (defScope s_Bremove) .none kV_Bremove dc_Bremove pm_Bremove an_Bremove cd_Bremove ct_Bremove, f_Binsert, PySem.W.fnOf "_insert" "Book._insert" (defArgs s_Binsert) (defBody s_Binsert) (defScope s_Binsert) .none kV_Binsert dc_Binsert pm_Binsert an_Binsert cd_Binsert ct_Binsert, f_Benter, PySem.W.fnOf "_enter" "Book._enter" (defArgs s_Benter) (defBody s_Benter) (defScope s_Benter) .none kV_Benter dc_Benter pm_Benter an_Benter cd_Benter ct_Benter, f_Bmatch, PySem.W.fnOf "_match" "Book._match" (defArgs s_Bmatch) (defBody s_Bmatch) (defScope s_Bmatch) .none kV_Bmatch dc_Bmatch pm_Bmatch an_Bmatch cd_Bmatch ct_Bmatch, f_Bsettle_first, PySem.W.fnOf "_settle_first" "Book._settle_first" (defArgs s_Bsettle_first) (defBody s_Bsettle_first) (defScope s_Bsettle_first) .none kV_Bsettle_first dc_Bsettle_first pm_Bsettle_first an_Bsettle_first cd_Bsettle_first ct_Bsettle_first, f_Btrigger, PySem.W.fnOf "_trigger" "Book._trigger" (defArgs s_Btrigger) (defBody s_Btrigger) (defScope s_Btrigger) .none kV_Btrigger dc_Btrigger pm_Btrigger an_Btrigger cd_Btrigger ct_Btrigger, f_Bfirst_reached, PySem.W.fnOf "_first_reached" "Book._first_reached" (defArgs s_Bfirst_reached) (defBody s_Bfirst_reached) (defScope s_Bfirst_reached) .none kV_Bfirst_reached dc_Bfirst_reached pm_Bfirst_reached an_Bfirst_reached cd_Bfirst_reached ct_Bfirst_reached, f_law_house, PySem.W.fnOf "_law_house" "_law_house" (defArgs s_law_house) (defBody s_law_house) (defScope s_law_house) .none kV_law_house dc_law_house pm_law_house an_law_house cd_law_house ct_law_house, f_law_resting_side, PySem.W.fnOf "_law_resting_side" "_law_resting_side" (defArgs s_law_resting_side) (defBody s_law_resting_side) (defScope s_law_resting_side) .none kV_law_resting_side dc_law_resting_side pm_law_resting_side an_law_resting_side cd_law_resting_side ct_law_resting_side, f_law_fits, PySem.W.fnOf "_law_fits" "_law_fits" (defArgs s_law_fits) (defBody s_law_fits) (defScope s_law_fits) .none kV_law_fits dc_law_fits pm_law_fits an_law_fits cd_law_fits ct_law_fits, f_law_first, PySem.W.fnOf "_law_first" "_law_first" (defArgs s_law_first) (defBody s_law_first) (defScope s_law_first) .none kV_law_first dc_law_first pm_law_first an_law_first cd_law_first ct_law_first, f_law_visible, PySem.W.fnOf "_law_visible" "_law_visible" (defArgs s_law_visible) (defBody s_law_visible) (defScope s_law_visible) .none kV_law_visible dc_law_visible pm_law_visible an_law_visible cd_law_visible ct_law_visible, f_law_trade, PySem.W.fnOf "_law_trade" "_law_trade" (defArgs s_law_trade) (defBody s_law_trade) (defScope s_law_trade) .none kV_law_trade dc_law_trade pm_law_trade an_law_trade cd_law_trade ct_law_trade, f_law_enter, PySem.W.fnOf "_law_enter" "_law_enter" (defArgs s_law_enter) (defBody s_law_enter) (defScope s_law_enter) .none kV_law_enter dc_law_enter pm_law_enter an_law_enter cd_law_enter ct_law_enter, f_law_listed, PySem.W.fnOf "_law_listed" "_law_listed" (defArgs s_law_listed) (defBody s_law_listed) (defScope s_law_listed) .none kV_law_listed dc_law_listed pm_law_listed an_law_listed cd_law_listed ct_law_listed, f_law_reached, PySem.W.fnOf "_law_reached" "_law_reached" (defArgs s_law_reached) (defBody s_law_reached) (defScope s_law_reached) .none kV_law_reached dc_law_reached pm_law_reached an_law_reached cd_law_reached ct_law_reached, f_law_last, PySem.W.fnOf "_law_last" "_law_last" (defArgs s_law_last) (defBody s_law_last) (defScope s_law_last) .none kV_law_last dc_law_last pm_law_last an_law_last cd_law_last ct_law_last, f_law_triggered, PySem.W.fnOf "_law_triggered" "_law_triggered" (defArgs s_law_triggered) (defBody s_law_triggered) (defScope s_law_triggered) .none kV_law_triggered dc_law_triggered pm_law_triggered an_law_triggered cd_law_triggered ct_law_triggered, f_law_told, PySem.W.fnOf "_law_told" "_law_told" (defArgs s_law_told) (defBody s_law_told) (defScope s_law_told) .none kV_law_told dc_law_told pm_law_told an_law_told cd_law_told ct_law_told, f_law_submit, PySem.W.fnOf "_law_submit" "_law_submit" (defArgs s_law_submit) (defBody s_law_submit) (defScope s_law_submit) .none kV_law_submit dc_law_submit pm_law_submit an_law_submit cd_law_submit ct_law_submit, f_law_cancel, PySem.W.fnOf "_law_cancel" "_law_cancel" (defArgs s_law_cancel) (defBody s_law_cancel) (defScope s_law_cancel) .none kV_law_cancel dc_law_cancel pm_law_cancel an_law_cancel cd_law_cancel ct_law_cancel, f_law_amend, PySem.W.fnOf "_law_amend" "_law_amend" (defArgs s_law_amend) (defBody s_law_amend) (defScope s_law_amend) .none kV_law_amend dc_law_amend pm_law_amend an_law_amend cd_law_amend ct_law_amend, fa, PySem.W.fnOf "law" "law" (defArgs s_law) (defBody s_law) (defScope s_law) .none kV_law dc_law pm_law an_law (.ref cL) ct_law⟩ := {
    cO := ⟨pgO, hdO, poO, saO⟩
    mO := PySem.W.mg_of X G aO
    kO := ⟨mkO, a_Oinit, i_Oinit, kcO⟩
    nO_number := nO_number
    nO_house := nO_house
    nO_side := nO_side
    nO_price := nO_price
    nO_left := nO_left
    nO_shown := nO_shown
    nO_visible := nO_visible
    cR := ⟨pgR, hdR, poR, saR⟩
    mR := PySem.W.mg_of X G aR
    kR := ⟨mkR, a_Rinit, i_Rinit, kcR⟩
    nR_number := nR_number
    nR_house := nR_house
    nR_side := nR_side
    nR_fills := nR_fills
    nR_removed := nR_removed
    nR_resting := nR_resting
    cS := ⟨pgS, hdS, poS, saS⟩
    mS := PySem.W.mg_of X G aS
    kS := ⟨mkS, a_Sinit, i_Sinit, kcS⟩
    nS_number := nS_number
    nS_house := nS_house
    nS_side := nS_side
    nS_trigger := nS_trigger
    nS_price := nS_price
    nS_quantity := nS_quantity
    cB := ⟨pgB, hdB, poB, saB⟩
    mB := PySem.W.mg_of X G aB
    kB := ⟨mkB, a_Binit, i_Binit, kcB⟩
    nB_resting := nB_resting
    nB_stops := nB_stops
    nB_next_number := nB_next_number
    nB_last := nB_last
    F_is_integer := F_is_integer
    b_is_integer := F_is_integer.binds (ps := ["value"]) fun _ _ _ _ _ _ us hl => match us, hl with | [_], _ => rfl
    g_is_integer := PySem.W.mg_of X G a_is_integer
    F_in_range := F_in_range
    b_in_range := F_in_range.binds (ps := ["value"]) fun _ _ _ _ _ _ us hl => match us, hl with | [_], _ => rfl
    g_in_range := PySem.W.mg_of X G a_in_range
    F_Oinit := F_Oinit
    b_Oinit := F_Oinit.binds (ps := ["self", "number", "house", "side", "price", "quantity", "shown"]) fun _ _ _ _ _ _ us hl => match us, hl with | [_, _, _, _, _, _, _], _ => rfl
    F_Oshow_next_part := F_Oshow_next_part
    b_Oshow_next_part := F_Oshow_next_part.binds (ps := ["self"]) fun _ _ _ _ _ _ us hl => match us, hl with | [_], _ => rfl
    h_Oshow_next_part := ⟨a_Oshow_next_part, i_Oshow_next_part, k_Oshow_next_part⟩
    F_Otake := F_Otake
    b_Otake := F_Otake.binds (ps := ["self", "quantity"]) fun _ _ _ _ _ _ us hl => match us, hl with | [_, _], _ => rfl
    h_Otake := ⟨a_Otake, i_Otake, k_Otake⟩
    F_Oreduce := F_Oreduce
    b_Oreduce := F_Oreduce.binds (ps := ["self", "quantity"]) fun _ _ _ _ _ _ us hl => match us, hl with | [_, _], _ => rfl
    h_Oreduce := ⟨a_Oreduce, i_Oreduce, k_Oreduce⟩
    F_Oentry := F_Oentry
    b_Oentry := F_Oentry.binds (ps := ["self"]) fun _ _ _ _ _ _ us hl => match us, hl with | [_], _ => rfl
    h_Oentry := ⟨a_Oentry, i_Oentry, k_Oentry⟩
    F_other_side := F_other_side
    b_other_side := F_other_side.binds (ps := ["side"]) fun _ _ _ _ _ _ us hl => match us, hl with | [_], _ => rfl
    g_other_side := PySem.W.mg_of X G a_other_side
    F_is_better := F_is_better
    b_is_better := F_is_better.binds (ps := ["side", "price", "other"]) fun _ _ _ _ _ _ us hl => match us, hl with | [_, _, _], _ => rfl
    g_is_better := PySem.W.mg_of X G a_is_better
    F_accepts := F_accepts
    b_accepts := F_accepts.binds (ps := ["side", "limit", "price"]) fun _ _ _ _ _ _ us hl => match us, hl with | [_, _, _], _ => rfl
    g_accepts := PySem.W.mg_of X G a_accepts
    F_check_order := F_check_order
    b_check_order := F_check_order.binds (ps := ["side", "price", "quantity", "kind", "shown"]) fun _ _ _ _ _ _ us hl => match us, hl with | [_, _, _, _, _], _ => rfl
    g_check_order := PySem.W.mg_of X G a_check_order
    F_check_stop := F_check_stop
    b_check_stop := F_check_stop.binds (ps := ["side", "trigger", "price", "quantity"]) fun _ _ _ _ _ _ us hl => match us, hl with | [_, _, _, _], _ => rfl
    g_check_stop := PySem.W.mg_of X G a_check_stop
    F_Rinit := F_Rinit
    b_Rinit := F_Rinit.binds (ps := ["self", "order", "fills", "removed", "resting"]) fun _ _ _ _ _ _ us hl => match us, hl with | [_, _, _, _, _], _ => rfl
    F_Sinit := F_Sinit
    b_Sinit := F_Sinit.binds (ps := ["self", "number", "house", "side", "trigger", "price", "quantity"]) fun _ _ _ _ _ _ us hl => match us, hl with | [_, _, _, _, _, _, _], _ => rfl
    F_Sis_reached := F_Sis_reached
    b_Sis_reached := F_Sis_reached.binds (ps := ["self", "last"]) fun _ _ _ _ _ _ us hl => match us, hl with | [_, _], _ => rfl
    h_Sis_reached := ⟨a_Sis_reached, i_Sis_reached, k_Sis_reached⟩
    F_Sentry := F_Sentry
    b_Sentry := F_Sentry.binds (ps := ["self"]) fun _ _ _ _ _ _ us hl => match us, hl with | [_], _ => rfl
    h_Sentry := ⟨a_Sentry, i_Sentry, k_Sentry⟩
    F_Binit := F_Binit
    b_Binit := F_Binit.binds1 (ps := ["self", "first_number"]) 1 0 (List.cons_ne_nil _ _) rfl fun T kV doc pm an cdv ct us its h1 h2 => match us, h1, its, h2 with | [_], _, [_], _ => ⟨_, rfl, rfl⟩
    F_Borders := F_Borders
    b_Borders := F_Borders.binds (ps := ["self", "side"]) fun _ _ _ _ _ _ us hl => match us, hl with | [_, _], _ => rfl
    h_Borders := ⟨a_Borders, i_Borders, k_Borders⟩
    F_Bstops := F_Bstops
    b_Bstops := F_Bstops.binds (ps := ["self"]) fun _ _ _ _ _ _ us hl => match us, hl with | [_], _ => rfl
    h_Bstops := ⟨a_Bstops, i_Bstops, k_Bstops⟩
    F_Bsubmit := F_Bsubmit
    b_Bsubmit := ⟨fun s us ws X h1 h2 => match us, h1, ws, h2 with | [_, _, _, _, _], _, [_, _], _ => .of_eq rfl, fun r1 r2 => r1.append r2⟩
    h_Bsubmit := ⟨a_Bsubmit, i_Bsubmit, k_Bsubmit⟩
    F_Bsubmit_stop := F_Bsubmit_stop
    b_Bsubmit_stop := F_Bsubmit_stop.binds (ps := ["self", "house", "side", "trigger", "price", "quantity"]) fun _ _ _ _ _ _ us hl => match us, hl with | [_, _, _, _, _, _], _ => rfl
    h_Bsubmit_stop := ⟨a_Bsubmit_stop, i_Bsubmit_stop, k_Bsubmit_stop⟩
    F_Bcancel := F_Bcancel
    b_Bcancel := F_Bcancel.binds (ps := ["self", "number", "house"]) fun _ _ _ _ _ _ us hl => match us, hl with | [_, _, _], _ => rfl
    h_Bcancel := ⟨a_Bcancel, i_Bcancel, k_Bcancel⟩
    F_Bamend := F_Bamend
    b_Bamend := F_Bamend.binds (ps := ["self", "number", "house", "price", "quantity"]) fun _ _ _ _ _ _ us hl => match us, hl with | [_, _, _, _, _], _ => rfl
    h_Bamend := ⟨a_Bamend, i_Bamend, k_Bamend⟩
    F_Bnew_number := F_Bnew_number
    b_Bnew_number := F_Bnew_number.binds (ps := ["self"]) fun _ _ _ _ _ _ us hl => match us, hl with | [_], _ => rfl
    h_Bnew_number := ⟨a_Bnew_number, i_Bnew_number, k_Bnew_number⟩
    F_Bowned := F_Bowned
    b_Bowned := F_Bowned.binds (ps := ["self", "number", "house"]) fun _ _ _ _ _ _ us hl => match us, hl with | [_, _, _], _ => rfl
    h_Bowned := ⟨a_Bowned, i_Bowned, k_Bowned⟩
    F_Bremove := F_Bremove
    b_Bremove := F_Bremove.binds (ps := ["self", "order"]) fun _ _ _ _ _ _ us hl => match us, hl with | [_, _], _ => rfl
    h_Bremove := ⟨a_Bremove, i_Bremove, k_Bremove⟩
    F_Binsert := F_Binsert
    b_Binsert := F_Binsert.binds (ps := ["self", "order"]) fun _ _ _ _ _ _ us hl => match us, hl with | [_, _], _ => rfl
    h_Binsert := ⟨a_Binsert, i_Binsert, k_Binsert⟩
    F_Benter := F_Benter
    b_Benter := F_Benter.binds (ps := ["self", "order", "kind"]) fun _ _ _ _ _ _ us hl => match us, hl with | [_, _, _], _ => rfl
    h_Benter := ⟨a_Benter, i_Benter, k_Benter⟩
    F_Bmatch := F_Bmatch
    b_Bmatch := F_Bmatch.binds (ps := ["self", "order", "fills", "removed"]) fun _ _ _ _ _ _ us hl => match us, hl with | [_, _, _, _], _ => rfl
    h_Bmatch := ⟨a_Bmatch, i_Bmatch, k_Bmatch⟩
    F_Bsettle_first := F_Bsettle_first
    b_Bsettle_first := F_Bsettle_first.binds (ps := ["self", "resting", "first"]) fun _ _ _ _ _ _ us hl => match us, hl with | [_, _, _], _ => rfl
    h_Bsettle_first := ⟨a_Bsettle_first, i_Bsettle_first, k_Bsettle_first⟩
    F_Btrigger := F_Btrigger
    b_Btrigger := F_Btrigger.binds (ps := ["self"]) fun _ _ _ _ _ _ us hl => match us, hl with | [_], _ => rfl
    h_Btrigger := ⟨a_Btrigger, i_Btrigger, k_Btrigger⟩
    F_Bfirst_reached := F_Bfirst_reached
    b_Bfirst_reached := F_Bfirst_reached.binds (ps := ["self"]) fun _ _ _ _ _ _ us hl => match us, hl with | [_], _ => rfl
    h_Bfirst_reached := ⟨a_Bfirst_reached, i_Bfirst_reached, k_Bfirst_reached⟩
    F_law_house := F_law_house
    b_law_house := F_law_house.binds (ps := ["_law_cell"]) fun _ _ _ _ _ _ us hl => match us, hl with | [_], _ => rfl
    g_law_house := PySem.W.mg_of X G a_law_house
    F_law_resting_side := F_law_resting_side
    b_law_resting_side := F_law_resting_side.binds (ps := ["_law_side"]) fun _ _ _ _ _ _ us hl => match us, hl with | [_], _ => rfl
    g_law_resting_side := PySem.W.mg_of X G a_law_resting_side
    F_law_fits := F_law_fits
    b_law_fits := F_law_fits.binds (ps := ["_law_side", "_law_limit", "_law_price"]) fun _ _ _ _ _ _ us hl => match us, hl with | [_, _, _], _ => rfl
    g_law_fits := PySem.W.mg_of X G a_law_fits
    F_law_first := F_law_first
    b_law_first := F_law_first.binds (ps := ["_law_orders", "_law_side", "_law_limit"]) fun _ _ _ _ _ _ us hl => match us, hl with | [_, _, _], _ => rfl
    g_law_first := PySem.W.mg_of X G a_law_first
    F_law_visible := F_law_visible
    b_law_visible := F_law_visible.binds (ps := ["_law_left", "_law_shown"]) fun _ _ _ _ _ _ us hl => match us, hl with | [_, _], _ => rfl
    g_law_visible := PySem.W.mg_of X G a_law_visible
    F_law_trade := F_law_trade
    b_law_trade := F_law_trade.binds (ps := ["_law_orders", "_law_house_here", "_law_side", "_law_limit", "_law_quantity"]) fun _ _ _ _ _ _ us hl => match us, hl with | [_, _, _, _, _], _ => rfl
    g_law_trade := PySem.W.mg_of X G a_law_trade
    F_law_enter := F_law_enter
    b_law_enter := F_law_enter.binds (ps := ["_law_orders", "_law_number", "_law_house_here", "_law_side", "_law_limit", "_law_quantity", "_law_kind", "_law_shown"]) fun _ _ _ _ _ _ us hl => match us, hl with | [_, _, _, _, _, _, _, _], _ => rfl
    g_law_enter := PySem.W.mg_of X G a_law_enter
    F_law_listed := F_law_listed
    b_law_listed := F_law_listed.binds (ps := ["_law_orders", "_law_side"]) fun _ _ _ _ _ _ us hl => match us, hl with | [_, _], _ => rfl
    g_law_listed := PySem.W.mg_of X G a_law_listed
    F_law_reached := F_law_reached
    b_law_reached := F_law_reached.binds (ps := ["_law_stop", "_law_last_here"]) fun _ _ _ _ _ _ us hl => match us, hl with | [_, _], _ => rfl
    g_law_reached := PySem.W.mg_of X G a_law_reached
    F_law_last := F_law_last
    b_law_last := F_law_last.binds (ps := ["_law_last_here", "_law_due"]) fun _ _ _ _ _ _ us hl => match us, hl with | [_, _], _ => rfl
    g_law_last := PySem.W.mg_of X G a_law_last
    F_law_triggered := F_law_triggered
    b_law_triggered := F_law_triggered.binds (ps := ["_law_world"]) fun _ _ _ _ _ _ us hl => match us, hl with | [_], _ => rfl
    g_law_triggered := PySem.W.mg_of X G a_law_triggered
    F_law_told := F_law_told
    b_law_told := F_law_told.binds (ps := ["_law_reports"]) fun _ _ _ _ _ _ us hl => match us, hl with | [_], _ => rfl
    g_law_told := PySem.W.mg_of X G a_law_told
    F_law_submit := F_law_submit
    b_law_submit := F_law_submit.binds (ps := ["_law_book", "_law_world", "_law_cell", "_law_number"]) fun _ _ _ _ _ _ us hl => match us, hl with | [_, _, _, _], _ => rfl
    g_law_submit := PySem.W.mg_of X G a_law_submit
    F_law_cancel := F_law_cancel
    b_law_cancel := F_law_cancel.binds (ps := ["_law_book", "_law_world", "_law_cell"]) fun _ _ _ _ _ _ us hl => match us, hl with | [_, _, _], _ => rfl
    g_law_cancel := PySem.W.mg_of X G a_law_cancel
    F_law_amend := F_law_amend
    b_law_amend := F_law_amend.binds (ps := ["_law_book", "_law_world", "_law_cell"]) fun _ _ _ _ _ _ us hl => match us, hl with | [_, _, _], _ => rfl
    g_law_amend := PySem.W.mg_of X G a_law_amend
    F_law := F_law
    z_int := PySem.W.mg_none_of X G z_int
    z_bool := PySem.W.mg_none_of X G z_bool
    z_isinstance := PySem.W.mg_none_of X G z_isinstance
    z_len := PySem.W.mg_none_of X G z_len
    z_min := PySem.W.mg_none_of X G z_min
    z_range := PySem.W.mg_none_of X G z_range
    z_sorted := PySem.W.mg_none_of X G z_sorted
    greatest := ⟨_, PySem.W.mg_of X G aG⟩
    sides := ⟨_, PySem.W.mg_of X G aS_, fun _ => .inr ⟨_, _, _, lS, rfl, rfl, (by show 2 ≤ sizeLine; decide), .cons ⟨_, rfl⟩ (.cons ⟨_, rfl⟩ .nil)⟩⟩
    kinds := ⟨_, PySem.W.mg_of X G aK_, fun _ => .inr ⟨_, _, _, lK, rfl, rfl, (by show 3 ≤ sizeLine; decide), .cons ⟨_, rfl⟩ (.cons ⟨_, rfl⟩ (.cons ⟨_, rfl⟩ .nil))⟩⟩ }
  have tL : PySem.W.tabIn K "law" = some (cL, PL) := by
    unfold PySem.W.tabIn
    simp only [a_law, l_law, lc, eP, PySem.W.fnOf]
  obtain ⟨hC, hP⟩ := HT _ _ tL
  refine ⟨_, [(cL, PL)], spLaw K PL, fun p hp => ?_, fun p hp => ?_, fun p hp => ?_, fun s v => .of_eq rfl, fun H a ns _ _ hH hS => ⟨a, ns, rfl, hS, hH _ (List.mem_singleton.mpr rfl), fun _ => rfl⟩, fun base _ _ TB => ok_law T rfl (TB _ (List.mem_singleton.mpr rfl))⟩
  · rw [List.mem_singleton.mp hp]
    exact hP
  · rw [List.mem_singleton.mp hp]
    exact nL
  · rw [List.mem_singleton.mp hp]
    exact hC
theorem walk {l : PySem.W.OpenLaw} {q : Program} {loose : List Str} {XP : (Str → Option Value) → Heap → Prop} {YP : World → Heap → Prop} {d : DefRec} {K : Params → PySem.W.Frag} (hn : l.most = some 63) (hdf : d.params.defaults = []) (hr : (PyProof.Rows.recsOf q).find? (fun e => e.name == ("law" : Str)) = some d)
    (hY : ∀ (w : World) (h : Heap), YP w h → (K w.params).In h)
    (F : ∀ (w : World) (mg : Str → Option Value) (fa : Addr) (h : Heap), (K w.params).In h → h.Ns mainGlobals mg → mg d.name = some (.ref fa) →
      (∀ c P : Addr, PySem.W.tabIn (K w.params) "law" = some (c, P) → PySem.W.CodeHd h c P ∧ h.get? P = some { cls := .none, data := .fields #[] }) → LawAtS l w (K w.params) CX0 9 63 "_law_script" mg fa h) :
    PySem.W.WalkO q loose XP YP l.row.toRowW d [] (fun f vs => PySem.call f vs) := by
  refine Att.attach_callB hn hdf fun w s₀ s₁ mg mb fa o pm cd doc a vs ns G Y ho hd hcd hmg hobj hints hlen hbits hg => ?_
  have KX := hY w _ Y
  obtain ⟨fd, cs, sp, hT, nT, C, hb, hsp, hF⟩ := F w mg fa _ KX G.T.g hmg fun c P ht => PySem.W.tab_of G.T KX hr ht
  exact law_callTs (k := 9) KX G.T.g G.T.b G.T.builtins G.T.nolimit hg hT nT C G.T.bmain hobj hints (Nat.le_trans hlen (by decide)) ⟨rfl, by decide, by decide⟩ hF hb (fun H hH hS => hsp H a ns hlen hbits hH hS) fun H e s' z => z
end K29
end

open PySem PySem.W PyProof.Rows in
set_option maxRecDepth 100000 in
set_option maxHeartbeats 0 in
theorem PySem.Challenge.cw_fairbourse_k29_book_with_stops_whole_mod_holds : PySem.Challenge.rw_fairbourse_k29_book_with_stops_whole_mod.Holds := by
  w_on; o_law; k_head; (case hw => w_witness2)
  k_fill
  refine K29.walk (l := PySem.Challenge.rw_fairbourse_k29_book_with_stops_whole_mod) rfl rfl ?hr (fun w h Y => PySem.W.km_in_of Y) ?F
  (case hr => rfl)
  case F =>
    intro w mg fa h KX G hmg HT
    refine' K29.all_mk KX G hmg HT ?aO ?aR ?aS ?aB ?pgO ?hdO ?poO ?saO ?mkO ?kcO ?nO_number ?nO_house ?nO_side ?nO_price ?nO_left ?nO_shown ?nO_visible ?pgR ?hdR ?poR ?saR ?mkR ?kcR ?nR_number ?nR_house ?nR_side ?nR_fills ?nR_removed ?nR_resting ?pgS ?hdS ?poS ?saS ?mkS ?kcS ?nS_number ?nS_house ?nS_side ?nS_trigger ?nS_price ?nS_quantity ?pgB ?hdB ?poB ?saB ?mkB ?kcB ?nB_resting ?nB_stops ?nB_next_number ?nB_last ?a_is_integer ?l_is_integer ?c_is_integer ?k_is_integer ?a_in_range ?l_in_range ?c_in_range ?k_in_range ?a_Oinit ?i_Oinit ?l_Oinit ?c_Oinit ?k_Oinit ?a_Oshow_next_part ?i_Oshow_next_part ?l_Oshow_next_part ?c_Oshow_next_part ?k_Oshow_next_part ?a_Otake ?i_Otake ?l_Otake ?c_Otake ?k_Otake ?a_Oreduce ?i_Oreduce ?l_Oreduce ?c_Oreduce ?k_Oreduce ?a_Oentry ?i_Oentry ?l_Oentry ?c_Oentry ?k_Oentry ?a_other_side ?l_other_side ?c_other_side ?k_other_side ?a_is_better ?l_is_better ?c_is_better ?k_is_better ?a_accepts ?l_accepts ?c_accepts ?k_accepts ?a_check_order ?l_check_order ?c_check_order ?k_check_order ?a_check_stop ?l_check_stop ?c_check_stop ?k_check_stop ?a_Rinit ?i_Rinit ?l_Rinit ?c_Rinit ?k_Rinit ?a_Sinit ?i_Sinit ?l_Sinit ?c_Sinit ?k_Sinit ?a_Sis_reached ?i_Sis_reached ?l_Sis_reached ?c_Sis_reached ?k_Sis_reached ?a_Sentry ?i_Sentry ?l_Sentry ?c_Sentry ?k_Sentry ?a_Binit ?i_Binit ?l_Binit ?c_Binit ?k_Binit ?lT ?a_Borders ?i_Borders ?l_Borders ?c_Borders ?k_Borders ?a_Bstops ?i_Bstops ?l_Bstops ?c_Bstops ?k_Bstops ?a_Bsubmit ?i_Bsubmit ?l_Bsubmit ?c_Bsubmit ?k_Bsubmit ?a_Bsubmit_stop ?i_Bsubmit_stop ?l_Bsubmit_stop ?c_Bsubmit_stop ?k_Bsubmit_stop ?a_Bcancel ?i_Bcancel ?l_Bcancel ?c_Bcancel ?k_Bcancel ?a_Bamend ?i_Bamend ?l_Bamend ?c_Bamend ?k_Bamend ?a_Bnew_number ?i_Bnew_number ?l_Bnew_number ?c_Bnew_number ?k_Bnew_number ?a_Bowned ?i_Bowned ?l_Bowned ?c_Bowned ?k_Bowned ?a_Bremove ?i_Bremove ?l_Bremove ?c_Bremove ?k_Bremove ?a_Binsert ?i_Binsert ?l_Binsert ?c_Binsert ?k_Binsert ?a_Benter ?i_Benter ?l_Benter ?c_Benter ?k_Benter ?a_Bmatch ?i_Bmatch ?l_Bmatch ?c_Bmatch ?k_Bmatch ?a_Bsettle_first ?i_Bsettle_first ?l_Bsettle_first ?c_Bsettle_first ?k_Bsettle_first ?a_Btrigger ?i_Btrigger ?l_Btrigger ?c_Btrigger ?k_Btrigger ?a_Bfirst_reached ?i_Bfirst_reached ?l_Bfirst_reached ?c_Bfirst_reached ?k_Bfirst_reached ?a_law_house ?l_law_house ?c_law_house ?k_law_house ?a_law_resting_side ?l_law_resting_side ?c_law_resting_side ?k_law_resting_side ?a_law_fits ?l_law_fits ?c_law_fits ?k_law_fits ?a_law_first ?l_law_first ?c_law_first ?k_law_first ?a_law_visible ?l_law_visible ?c_law_visible ?k_law_visible ?a_law_trade ?l_law_trade ?c_law_trade ?k_law_trade ?a_law_enter ?l_law_enter ?c_law_enter ?k_law_enter ?a_law_listed ?l_law_listed ?c_law_listed ?k_law_listed ?a_law_reached ?l_law_reached ?c_law_reached ?k_law_reached ?a_law_last ?l_law_last ?c_law_last ?k_law_last ?a_law_triggered ?l_law_triggered ?c_law_triggered ?k_law_triggered ?a_law_told ?l_law_told ?c_law_told ?k_law_told ?a_law_submit ?l_law_submit ?c_law_submit ?k_law_submit ?a_law_cancel ?l_law_cancel ?c_law_cancel ?k_law_cancel ?a_law_amend ?l_law_amend ?c_law_amend ?k_law_amend ?a_law ?l_law ?c_law ?k_law ?z_int ?z_bool ?z_isinstance ?z_len ?z_min ?z_range ?z_sorted ?aG ?aS_ ?lS ?aK_ ?lK ?lc ?eP ?nL
    (case aO => k_is)
    (case aR => k_is)
    (case aS => k_is)
    (case aB => k_is)
    (case pgO => k_is)
    (case hdO => k_is)
    (case poO => k_is)
    (case saO => k_is)
    (case mkO => k_is)
    (case kcO => k_is)
    (case nO_number => k_is)
    (case nO_house => k_is)
    (case nO_side => k_is)
    (case nO_price => k_is)
    (case nO_left => k_is)
    (case nO_shown => k_is)
    (case nO_visible => k_is)
    (case pgR => k_is)
    (case hdR => k_is)
    (case poR => k_is)
    (case saR => k_is)
    (case mkR => k_is)
    (case kcR => k_is)
    (case nR_number => k_is)
    (case nR_house => k_is)
    (case nR_side => k_is)
    (case nR_fills => k_is)
    (case nR_removed => k_is)
    (case nR_resting => k_is)
    (case pgS => k_is)
    (case hdS => k_is)
    (case poS => k_is)
    (case saS => k_is)
    (case mkS => k_is)
    (case kcS => k_is)
    (case nS_number => k_is)
    (case nS_house => k_is)
    (case nS_side => k_is)
    (case nS_trigger => k_is)
    (case nS_price => k_is)
    (case nS_quantity => k_is)
    (case pgB => k_is)
    (case hdB => k_is)
    (case poB => k_is)
    (case saB => k_is)
    (case mkB => k_is)
    (case kcB => k_is)
    (case nB_resting => k_is)
    (case nB_stops => k_is)
    (case nB_next_number => k_is)
    (case nB_last => k_is)
    (case a_is_integer => k_is)
    (case l_is_integer => k_is)
    (case c_is_integer => k_is)
    (case k_is_integer => k_is)
    (case a_in_range => k_is)
    (case l_in_range => k_is)
    (case c_in_range => k_is)
    (case k_in_range => k_is)
    (case a_Oinit => k_is)
    (case i_Oinit => k_is)
    (case l_Oinit => k_is)
    (case c_Oinit => k_is)
    (case k_Oinit => k_is)
    (case a_Oshow_next_part => k_is)
    (case i_Oshow_next_part => k_is)
    (case l_Oshow_next_part => k_is)
    (case c_Oshow_next_part => k_is)
    (case k_Oshow_next_part => k_is)
    (case a_Otake => k_is)
    (case i_Otake => k_is)
    (case l_Otake => k_is)
    (case c_Otake => k_is)
    (case k_Otake => k_is)
    (case a_Oreduce => k_is)
    (case i_Oreduce => k_is)
    (case l_Oreduce => k_is)
    (case c_Oreduce => k_is)
    (case k_Oreduce => k_is)
    (case a_Oentry => k_is)
    (case i_Oentry => k_is)
    (case l_Oentry => k_is)
    (case c_Oentry => k_is)
    (case k_Oentry => k_is)
    (case a_other_side => k_is)
    (case l_other_side => k_is)
    (case c_other_side => k_is)
    (case k_other_side => k_is)
    (case a_is_better => k_is)
    (case l_is_better => k_is)
    (case c_is_better => k_is)
    (case k_is_better => k_is)
    (case a_accepts => k_is)
    (case l_accepts => k_is)
    (case c_accepts => k_is)
    (case k_accepts => k_is)
    (case a_check_order => k_is)
    (case l_check_order => k_is)
    (case c_check_order => k_is)
    (case k_check_order => k_is)
    (case a_check_stop => k_is)
    (case l_check_stop => k_is)
    (case c_check_stop => k_is)
    (case k_check_stop => k_is)
    (case a_Rinit => k_is)
    (case i_Rinit => k_is)
    (case l_Rinit => k_is)
    (case c_Rinit => k_is)
    (case k_Rinit => k_is)
    (case a_Sinit => k_is)
    (case i_Sinit => k_is)
    (case l_Sinit => k_is)
    (case c_Sinit => k_is)
    (case k_Sinit => k_is)
    (case a_Sis_reached => k_is)
    (case i_Sis_reached => k_is)
    (case l_Sis_reached => k_is)
    (case c_Sis_reached => k_is)
    (case k_Sis_reached => k_is)
    (case a_Sentry => k_is)
    (case i_Sentry => k_is)
    (case l_Sentry => k_is)
    (case c_Sentry => k_is)
    (case k_Sentry => k_is)
    (case a_Binit => k_is)
    (case i_Binit => k_is)
    (case l_Binit => k_is)
    (case c_Binit => k_is)
    (case k_Binit => k_is)
    (case lT => k_is)
    (case a_Borders => k_is)
    (case i_Borders => k_is)
    (case l_Borders => k_is)
    (case c_Borders => k_is)
    (case k_Borders => k_is)
    (case a_Bstops => k_is)
    (case i_Bstops => k_is)
    (case l_Bstops => k_is)
    (case c_Bstops => k_is)
    (case k_Bstops => k_is)
    (case a_Bsubmit => k_is)
    (case i_Bsubmit => k_is)
    (case l_Bsubmit => k_is)
    (case c_Bsubmit => k_is)
    (case k_Bsubmit => k_is)
    (case a_Bsubmit_stop => k_is)
    (case i_Bsubmit_stop => k_is)
    (case l_Bsubmit_stop => k_is)
    (case c_Bsubmit_stop => k_is)
    (case k_Bsubmit_stop => k_is)
    (case a_Bcancel => k_is)
    (case i_Bcancel => k_is)
    (case l_Bcancel => k_is)
    (case c_Bcancel => k_is)
    (case k_Bcancel => k_is)
    (case a_Bamend => k_is)
    (case i_Bamend => k_is)
    (case l_Bamend => k_is)
    (case c_Bamend => k_is)
    (case k_Bamend => k_is)
    (case a_Bnew_number => k_is)
    (case i_Bnew_number => k_is)
    (case l_Bnew_number => k_is)
    (case c_Bnew_number => k_is)
    (case k_Bnew_number => k_is)
    (case a_Bowned => k_is)
    (case i_Bowned => k_is)
    (case l_Bowned => k_is)
    (case c_Bowned => k_is)
    (case k_Bowned => k_is)
    (case a_Bremove => k_is)
    (case i_Bremove => k_is)
    (case l_Bremove => k_is)
    (case c_Bremove => k_is)
    (case k_Bremove => k_is)
    (case a_Binsert => k_is)
    (case i_Binsert => k_is)
    (case l_Binsert => k_is)
    (case c_Binsert => k_is)
    (case k_Binsert => k_is)
    (case a_Benter => k_is)
    (case i_Benter => k_is)
    (case l_Benter => k_is)
    (case c_Benter => k_is)
    (case k_Benter => k_is)
    (case a_Bmatch => k_is)
    (case i_Bmatch => k_is)
    (case l_Bmatch => k_is)
    (case c_Bmatch => k_is)
    (case k_Bmatch => k_is)
    (case a_Bsettle_first => k_is)
    (case i_Bsettle_first => k_is)
    (case l_Bsettle_first => k_is)
    (case c_Bsettle_first => k_is)
    (case k_Bsettle_first => k_is)
    (case a_Btrigger => k_is)
    (case i_Btrigger => k_is)
    (case l_Btrigger => k_is)
    (case c_Btrigger => k_is)
    (case k_Btrigger => k_is)
    (case a_Bfirst_reached => k_is)
    (case i_Bfirst_reached => k_is)
    (case l_Bfirst_reached => k_is)
    (case c_Bfirst_reached => k_is)
    (case k_Bfirst_reached => k_is)
    (case a_law_house => k_is)
    (case l_law_house => k_is)
    (case c_law_house => k_is)
    (case k_law_house => k_is)
    (case a_law_resting_side => k_is)
    (case l_law_resting_side => k_is)
    (case c_law_resting_side => k_is)
    (case k_law_resting_side => k_is)
    (case a_law_fits => k_is)
    (case l_law_fits => k_is)
    (case c_law_fits => k_is)
    (case k_law_fits => k_is)
    (case a_law_first => k_is)
    (case l_law_first => k_is)
    (case c_law_first => k_is)
    (case k_law_first => k_is)
    (case a_law_visible => k_is)
    (case l_law_visible => k_is)
    (case c_law_visible => k_is)
    (case k_law_visible => k_is)
    (case a_law_trade => k_is)
    (case l_law_trade => k_is)
    (case c_law_trade => k_is)
    (case k_law_trade => k_is)
    (case a_law_enter => k_is)
    (case l_law_enter => k_is)
    (case c_law_enter => k_is)
    (case k_law_enter => k_is)
    (case a_law_listed => k_is)
    (case l_law_listed => k_is)
    (case c_law_listed => k_is)
    (case k_law_listed => k_is)
    (case a_law_reached => k_is)
    (case l_law_reached => k_is)
    (case c_law_reached => k_is)
    (case k_law_reached => k_is)
    (case a_law_last => k_is)
    (case l_law_last => k_is)
    (case c_law_last => k_is)
    (case k_law_last => k_is)
    (case a_law_triggered => k_is)
    (case l_law_triggered => k_is)
    (case c_law_triggered => k_is)
    (case k_law_triggered => k_is)
    (case a_law_told => k_is)
    (case l_law_told => k_is)
    (case c_law_told => k_is)
    (case k_law_told => k_is)
    (case a_law_submit => k_is)
    (case l_law_submit => k_is)
    (case c_law_submit => k_is)
    (case k_law_submit => k_is)
    (case a_law_cancel => k_is)
    (case l_law_cancel => k_is)
    (case c_law_cancel => k_is)
    (case k_law_cancel => k_is)
    (case a_law_amend => k_is)
    (case l_law_amend => k_is)
    (case c_law_amend => k_is)
    (case k_law_amend => k_is)
    (case a_law => k_is)
    (case l_law => k_is)
    (case c_law => k_is)
    (case k_law => k_is)
    (case z_int => k_is)
    (case z_bool => k_is)
    (case z_isinstance => k_is)
    (case z_len => k_is)
    (case z_min => k_is)
    (case z_range => k_is)
    (case z_sorted => k_is)
    (case aG => k_is)
    (case aS_ => k_is)
    (case lS => k_is)
    (case aK_ => k_is)
    (case lK => k_is)
    (case lc => k_is)
    (case eP => exact rfl)
    (case nL => kernel_rfl)
