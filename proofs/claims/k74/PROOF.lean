import PyProof.Rows.All
import Wide.All
import OpenK.AllK
import Wide.FinOn
import HandS.ForMost
import HandS.Walk
import HandS.Deep
import HandS.Wide
import HandS.Style
import HandS.Flow
import HandS.TupAny
import HandS.SortInts
import KE.KDictWalk
import KE.GoesEnum
import KE.KDictKeyed
import KE.SortData
import HandS.TupMul
import PyProof.ReprReads
import HandS.DictComp
import KE.KDictCopyH
import HandS.More
import PySem.Challenge.RW_webstoldapart_k74_whole_squares_by_rests
import HandS.Conv
import HandS.Zip
import KE.KDictZip
import HandS.SetFor
import HandS.TupLe
import KE.KIndexOf
import HandS.IsInst
import HandS.Star
import PyProof.DictUpdate
import KE.KDictLaws
import HandS.WordsDict
import HandS.TupLen
import PyProof.Rows.TupTab
import HandS.TryOnly
import KE.KDictSum
import PyProof.FitsInt
import PyProof.Rows.ReprOcc
set_option Elab.async false
set_option linter.all false
set_option maxRecDepth 100000
set_option maxHeartbeats 4000000
/- contracts of defs that also know that no repr is under way -/
namespace G
open PySem L2 PySem.Spec PyProof.Rows

/-- a def keeps its promise wherever no guard is laid -/
structure FnG (P : Program) (w : World) (K : PySem.W.Frag) (mg : Str → Option Value) (base : Heap) (k : Nat) (f : Addr) (fd : FuncData) (ps : List Str) (sp : Sp) : Prop where
  len : ∀ vs H Q E, sp vs H Q E → vs.length = ps.length
  run : ∀ (A : Around) (outer : List Env) (s : Shared) (H : Hp) (args : Args) (us : List Value) (vs : List V) (Q : VK) (E : XK), A.guards = some [] →
    Room k A → Env0 P w K mg base A outer s H → BindsTo s fd args (ps.zip us) → Vals vs us → sp vs H Q E →
    codeAny (model P w) A (.call (.ref f) args) (CR L2.CX0 outer P w H s Q E) s

theorem FnG.mono {P : Program} {w : World} {K : PySem.W.Frag} {mg : Str → Option Value} {base : Heap} {j k : Nat} {f : Addr} {fd : FuncData} {ps : List Str} {sp : Sp}
    (F : FnG P w K mg base j f fd ps sp) (h : j ≤ k) : FnG P w K mg base k f fd ps sp :=
  ⟨F.len, fun A outer s H args us vs Q E g r => F.run A outer s H args us vs Q E g (r.mono h)⟩

theorem fnG_of {P : Program} {w : World} {K : PySem.W.Frag} {mg : Str → Option Value} {base : Heap} {x qual : Str} {st : Stmt} {f : Addr} {fd : FuncData} {N ps : List Str} {k : Nat} {sp : Sp}
    (F : Fun K x qual st f fd) (S : FnScope N ps (defScope st)) (len : ∀ vs H Q E, sp vs H Q E → vs.length = ps.length)
    (body : ∀ (cdv : Value) (A : Around) (outer : List Env) (s : Shared) (H : Hp) (vs : List V) (Q : VK) (E : XK), A.guards = some [] → Room k (A.deeper (envOfC qual (defScope st) s.heap.objs.size f cdv)) → sp vs H Q E →
      ∃ t, PSs (cxOf L2.CX0 P w K mg base N qual (defScope st) f cdv A outer s H E).nox (defBody st) t ∧ t { nx := fun _ H' => Q .non H', rt := Q } (start N vs) H) :
    FnG P w K mg base (k + 1) f fd ps sp := by
  obtain ⟨oc, od, kV, doc, pm, an, cdv, ct, osl, rfl, lk, hcd⟩ := F.ex
  refine ⟨len, ?_⟩
  intro A outer s H args us vs Q E hg hr e0 hb r hsp
  have KX : K.In s.heap := e0.mod.kin.keeps fun b o e => (e0.bs b o e).1
  have lim : s.heap.NoLimit := e0.mod.nolimit.keeps fun b o e => (e0.bs b o e).1
  have hkind : ∀ y ∈ ps.zip us, (defScope st).names.lookup y.1 = some .local ∨ ((defScope st).names.lookup y.1 = some .cell ∧ ((cellsFrom (s.heap.objs.size + 1) (defScope st).names []).lookup y.1).isSome = true) := by
    rintro ⟨n, v⟩ hy
    exact (S.par n (List.of_mem_zip hy).1).imp id fun q => ⟨q, PySem.W.cellsFrom_some _ _ _ (.inl q)⟩
  refine codeAny_call_function hr.depth (KX _ _ lk) rfl S.co S.gen rfl (PySem.W.codeRec_of KX hcd) (hb _ _ _ _ ?_)
  refine wpAny_newFunctionEnv_cells S.kind hkind ?_
  intro env he s1 x
  subst he
  refine ⟨lim.keeps x.toInCall.keep, codeAny_func ?_⟩
  obtain ⟨t, ht, hq⟩ := body cdv A outer s H vs Q E hg (hr.deeper _) hsp
  have I := inv_start (CX := L2.CX0) (E := E) (cd := cdv) S hr.hd e0 (len _ _ _ _ hsp) r x
  refine wpAny_mono (ht.nox.run [] s1 (start N vs) H _ I hq) ?_ fun _ _ z => z
  intro fl s' hs
  cases fl with
  | ret u =>
    obtain ⟨v, σ', H', J, rv, q⟩ := hs
    exact ⟨v, H', J.os, J.bare, J.base, J.hok, rv, q⟩
  | next =>
    obtain ⟨σ', H', J, q⟩ := hs
    exact ⟨V.non, H', J.os, J.bare, J.base, J.hok, rfl, q⟩
  | brk => exact hs.elim fun _ z => z.elim fun _ z => z.2.elim
  | cont => exact hs.elim fun _ z => z.elim fun _ z => z.2.elim

section
variable {X : Cx} {k : Nat} {f : Addr} {fd : FuncData} {ps : List Str} {sp : Sp} {x : Str} {p pos : Pos} {e : Expr} {es : List Expr} {t : TA}
theorem run_fnG {pins : List (Addr × Obj)} {σ : L2.St} {H : Hp} {s : Shared} {Q : VK} {us : List Value} {vs : List V} (F : FnG X.prog X.w X.K X.mg X.base k f fd ps sp) (hg : X.A.guards = some []) (hr : Room k X.A) (hb : Binds X.K fd ps [])
    (I : Inv X pins σ H s) (r : Vals vs us) (h : sp vs H Q L2.E0) : wpAny (model X.prog X.w) X.A (call (.ref f) us) (EP X pins σ Q) X.xe s := by
  have hl : (us ++ []).length = ps.length := by
    rw [List.append_nil, ← r.length]
    exact F.len _ _ _ _ h
  have hbt := hb s us I.kIn hl
  rw [List.append_nil] at hbt
  refine wpAny_call (codeAny_mono (F.run X.A X.stack s H ⟨us, []⟩ us vs Q L2.E0 hg hr I.env0 hbt r h) ?_)
  intro r s' hq
  cases r with
  | error e => exact False.elim hq
  | ok fl =>
    cases fl with
    | ret u => exact I.after hq
    | next => exact False.elim hq
    | brk => exact False.elim hq
    | cont => exact False.elim hq
/-- f(e, ..) -/
theorem pe_callG (F : FnG X.prog X.w X.K X.mg X.base k f fd ps sp) (hgd : X.A.guards = some []) (hr : Room k X.A) (hg : Gl X x) (hm : X.mg x = some (.ref f)) (hk : PySem.W.keepIn X.K (.ref f) = true) (hb : Binds X.K fd ps [])
    (ha : PA X (e :: es) t) (hdb : (x == ("__debug__" : Str)) = false := by decide) (he : starEach (e :: es) X.env = (false, eval e X.env) :: starEach es X.env := by rfl) (hpl : (backTo pos (starEach es X.env)).any (·.1) = false := by rfl) :
    PE X (.Call (.Name x p) (e :: es) [] pos) (tCall sp [] L2.E0 t) := by
  constructor
  intro pins s σ H Q I h
  refine wpAny_Call_Name_kw (ld_glob I hg hm ?_ hdb)
  refine PySem.W.callWith_K (h₀ := X.base) I.ok.mod.kin hk (thn (ha.run pos pins s σ H _ I h) ?_) he hpl
  rintro us s1 ⟨vs, H1, I1, r, q⟩
  refine ⟨I1.kIn, run_fnG F hgd hr hb I1 r ?_⟩
  rw [List.append_nil] at q
  exact q
end
end G

set_option Elab.async false
set_option linter.all false
set_option maxRecDepth 100000
set_option maxHeartbeats 4000000
/- the end of a law row for a law kept by FnG -/
namespace G
open PySem L2 PySem.Spec PyProof.Rows

section
variable {P : Program} {w : World} {K : PySem.W.Frag} {mg mb : Str → Option Value} {k : Nat} {fa a : Addr} {fd : FuncData} {x : Str} {sp : Sp} {s₁ : Shared} {vs : List Value} {ns : List Int}

/-- from an abstract heap in which the script alone may be known -/
theorem law_core (H : Hp) (KX : K.In s₁.heap) (hns : s₁.heap.Ns mainGlobals mg) (hb : s₁.heap.Ns builtinsNs mb) (hbb : ∀ x : Str, x ≠ "__name__" → mb x = bootBuiltins x) (hlim : s₁.heap.NoLimit) (hg : s₁.gens = #[])
    (ha : s₁.heap.get? a = some { cls := .type "list", data := .seq vs.toArray }) (hr : Room k callerA)
    (F : ∀ base : Heap, K.In base → base.Ns mainGlobals mg → FnG P w K mg base k fa fd [x] sp) (hbind : ∀ (s : Shared) (u : Value), BindsTo s fd ⟨[u], []⟩ [(x, u)])
    (hO : Only H) (hok : HOk P w H s₁.heap) (hA : ∀ b, H b ≠ none → b = a) (hK : H a ≠ none → K.lookup a = none)
    (hsp : sp [.ref a] H (fun v _ => v = .bl true) L2.E0) :
    codeAny (model P w) callerA (.call (.ref fa) ⟨[.ref a], []⟩) (fun r s' => r = .ok (.ret (.bool true)) ∧ OldK s₁.heap s'.heap ∧ s'.os = s₁.os ∧ AllBare s'.gens) s₁ := by
  have at_a : ∀ {b : Addr}, H b ≠ none → s₁.heap.get? b = some { cls := .type "list", data := .seq vs.toArray } ∧ K.lookup b = none := by
    intro b hb'
    have e := hA b hb'
    subst e
    exact ⟨ha, hK hb'⟩
  have noD : ∀ {b : Addr} {o : Obj} {es : Array DictEntry} {ep : Nat}, s₁.heap.get? b = some o → o.data = .dict es ep → H b = none := by
    intro b o es ep e d
    apply Classical.byContradiction
    intro n
    rw [(at_a n).1] at e
    cases e
    exact nomatch d
  have toB : ∀ {b : Addr} {m : Str → Option Value}, s₁.heap.Ns b m → (hidT s₁.heap H).Ns b m := by
    rintro b m ⟨o, es, ep, e, d, r⟩
    exact ⟨o, es, ep, hidT_get e (noD e d), d, r⟩
  have KB : K.In (hidT s₁.heap H) := by
    intro b o e
    refine hidT_get (KX b o e) ?_
    apply Classical.byContradiction
    intro n
    rw [(at_a n).2] at e
    cases e
  have M : Mod K mg (hidT s₁.heap H) := ⟨KB, toB hns, ⟨mb, toB hb, hbb⟩, by
    obtain ⟨mc, h1, h2⟩ := hlim
    exact ⟨mc, toB h1, h2⟩⟩
  have e0 : Env0 P w K mg (hidT s₁.heap H) callerA [] s₁ H :=
    ⟨rfl, M, fun b o e => of_hidT e, Nat.le_of_eq (hidT_size _ _), trivial, fun b z => absurd (show b ∈ ([] : List Addr) from z) (by simp), hok, .of_eq hg⟩
  refine codeAny_mono ((F _ KB (toB hns)).run callerA [] s₁ H ⟨[.ref a], []⟩ [.ref a] [.ref a] _ _ rfl hr e0 (hbind s₁ (.ref a)) (.cons rfl .nil) hsp) ?_
  intro r s' h
  cases r with
  | error e => exact False.elim h
  | ok fl =>
    cases fl with
    | next => exact False.elim h
    | brk => exact False.elim h
    | cont => exact False.elim h
    | ret u =>
      obtain ⟨v, H', os, bare, un, hok', rv, q⟩ := h
      have q' : v = .bl true := q
      subst q'
      have e : u = Value.bool true := rv
      subst e
      refine ⟨rfl, OldK.of_keep ?_, os, bare⟩
      intro b o e
      cases hb : H b with
      | none => exact un.keep b o e hb (by intro z; exact absurd (show b ∈ ([] : List Addr) from z) (by simp)) (by simp)
      | some u =>
        rcases hO b with z | ⟨ob, xs, z⟩
        · rw [hb] at z; cases z
        · have e1 := (hok b _ z).1
          have e2 := (hok' b _ (un.frzs b ob _ z)).1
          rw [e] at e1
          cases e1
          exact e2

theorem law_callG (KX : K.In s₁.heap) (hns : s₁.heap.Ns mainGlobals mg) (hb : s₁.heap.Ns builtinsNs mb) (hbb : ∀ x : Str, x ≠ "__name__" → mb x = bootBuiltins x) (hlim : s₁.heap.NoLimit) (hg : s₁.gens = #[])
    (ha : s₁.heap.get? a = some { cls := .type "list", data := .seq vs.toArray }) (hi : IntsAre vs ns) (hl : ns.length ≤ sizeLine) (hr : Room k callerA)
    (F : ∀ base : Heap, K.In base → base.Ns mainGlobals mg → FnG P w K mg base k fa fd [x] sp) (hbind : ∀ (s : Shared) (u : Value), BindsTo s fd ⟨[u], []⟩ [(x, u)])
    (hsp : ∀ H : Hp, SqL K H a (ns.map V.int) → sp [.ref a] H (fun v _ => v = .bl true) L2.E0) :
    codeAny (model P w) callerA (.call (.ref fa) ⟨[.ref a], []⟩) (fun r s' => r = .ok (.ret (.bool true)) ∧ OldK s₁.heap s'.heap ∧ s'.os = s₁.os ∧ AllBare s'.gens) s₁ := by
  have rv := vals_ints hi
  have lenV := hi.length
  by_cases hk : K.lookup a = none
  · let H : Hp := fun b => if b = a then some (.frz { cls := .type "list", data := .seq vs.toArray } (.lst (ns.map V.int))) else none
    have HA : H a = some (.frz { cls := .type "list", data := .seq vs.toArray } (.lst (ns.map V.int))) := if_pos rfl
    have HN : ∀ b, b ≠ a → H b = none := fun b n => if_neg n
    refine law_core H KX hns hb hbb hlim hg ha hr F hbind ?_ ?_ ?_ (fun _ => hk) (hsp H (.inl (.inr ⟨_, HA⟩)))
    · intro b
      by_cases n : b = a
      · subst n; exact .inr ⟨_, _, HA⟩
      · exact .inl (HN b n)
    · intro b u z
      by_cases n : b = a
      · subst n
        rw [HA] at z
        cases z
        exact ⟨ha, by rw [List.length_map]; exact hl, vs, _, rv, ha⟩
      · rw [HN b n] at z; cases z
    · intro b z
      apply Classical.byContradiction
      intro n
      exact z (HN b n)
  · obtain ⟨o, ho⟩ := Option.ne_none_iff_exists'.mp hk
    have e := KX a o ho
    rw [ha] at e
    cases e
    refine law_core (fun _ => none) KX hns hb hbb hlim hg ha hr F hbind (fun _ => .inl rfl) (fun b u z => nomatch z) (fun b z => absurd rfl z) (fun z => absurd rfl z) (hsp _ (.inr ?_))
    exact ⟨_, vs.toArray, _, ho, rfl, rfl, rfl, by rw [List.size_toArray, lenV]; exact hl, by simpa using rv⟩
end

/-- what k_head leaves, from the law's promise kept by FnG -/
theorem walk_ofG {l : PySem.W.OpenLaw} {n k : Nat} {q : Program} {loose : List Str} {XP : (Str → Option Value) → Heap → Prop} {YP : World → Heap → Prop} {d : DefRec} {K : Params → PySem.W.Frag} {sp : World → Sp} {x : Str}
    (hn : l.most = some n) (hn2 : n ≤ sizeLine) (hdf : d.params.defaults = []) (hr : Room k callerA)
    (hY : ∀ (w : World) (h : Heap), YP w h → (K w.params).In h)
    (F : ∀ (w : World) (mg : Str → Option Value) (fa : Addr) (h : Heap), (K w.params).In h → h.Ns mainGlobals mg → mg d.name = some (.ref fa) →
      ∃ fd : FuncData, (∀ (s : Shared) (u : Value), BindsTo s fd ⟨[u], []⟩ [(x, u)]) ∧
        ∀ base : Heap, (K w.params).In base → base.Ns mainGlobals mg → FnG l.prog w (K w.params) mg base k fa fd [x] (sp w))
    (hsp : ∀ (w : World) (H : Hp) (a : Addr) (ns : List Int), ns.length ≤ n → SqL (K w.params) H a (ns.map V.int) → sp w [.ref a] H (fun v _ => v = .bl true) L2.E0) :
    PySem.W.WalkO q loose XP YP l.row.toRowW d [] (fun f vs => PySem.call f vs) := by
  refine Att.attach_call hn hdf ?_
  intro w s₀ s₁ mg mb fa o pm cd doc a vs ns G Y ho hd hcd hmg hobj hints hlen hg
  have KX := hY w _ Y
  obtain ⟨fd, hb, hF⟩ := F w mg fa _ KX G.T.g hmg
  exact law_callG KX G.T.g G.T.b G.T.builtins G.T.nolimit hg hobj hints (Nat.le_trans hlen hn2) hr hF hb fun H hS => hsp w H a ns hlen hS
end G

set_option Elab.async false
set_option linter.all false
set_option maxRecDepth 100000
set_option maxHeartbeats 4000000
/- new tuples, with what stands in their objects -/
namespace G
open PySem L2 PySem.Spec PyProof.Rows
/-- a new tuple at any place, its object known to keep no dict -/
def NewT (H : Hp) (xs : List V) (Q : VK) : Prop := ∀ p o, H p = none → o.dict = none → o.cls = .type "tuple" → Q (.ref p) (upd H p (.frz o (.tup xs)))
section
variable {X : Cx} {es : List Expr} {t : TA} {pos : Pos}
theorem inv_newT {pins : List (Addr × Obj)} {σ : L2.St} {H : Hp} {s : Shared} {xs : List V} {its : List Value} {h' : Heap} {o : Obj} {n t' : Nat} {Q : VK} (I : Inv X pins σ H s) (rv : Vals xs its) (hz : xs.length ≤ sizeLine) (k : ∀ b u, s.heap.get? b = some u → h'.get? b = some u)
    {a : Addr} (hle : s.heap.objs.size ≤ a) (at' : h'.get? a = some o) (hc : o.cls = .type "tuple") (hd : o.data = .seq its.toArray n) (hn : o.dict = none) (q : NewT H xs Q) : EP X pins σ Q (.ref a) { s with heap := h', toks := t' } :=
  ⟨.ref a, _, I.laid (t' := t') k hle (show ObjOk X.prog X.w _ _ _ (.frz o (.tup xs)) from ⟨at', hz, its, rv, o, at', hc, n, hd⟩), rfl, q a o (I.hok.fresh hle) hn hc⟩
def tTupN (t : TA) : TE := fun σ H Q => t σ H fun xs H1 => xs.length ≤ sizeLine ∧ NewT H1 xs Q
theorem pe_tupN {x1} (h : PA X es t) : PE X (.Tuple es x1 pos) (tTupN t) := by
  refine ⟨fun pins s σ H Q I hq => wpAny_Tuple_spliced (thn (h.run pos pins s σ H _ I hq) fun us s1 ⟨xs, H1, I1, r, z, q⟩ => ⟨by rw [← r.length]; exact z, ?_⟩)⟩
  exact inv_newT (t' := s1.toks) I1 r z (fun _ _ e => Heap.get?_push_of_some _ e) (Nat.le_refl _) (Heap.get?_push_size _ rfl) rfl rfl rfl q
/-- tuple(list) -/
theorem call_tupleN : CallR X (.type "tuple") (fun xs H Q => ∃ p ys, xs = [.ref p] ∧ SqL X.K H p ys ∧ NewT H ys Q) := by
  rintro pins s σ H xs us Q I r ⟨p, ys, rfl, hq, q⟩
  obtain ⟨u, rfl, rx⟩ := vals1 r
  cases rx
  obtain ⟨its, r', pl, hz⟩ := I.list hq
  have hlen := r'.length
  refine call_tuple_list pl.isList (fun h' kp => ?_) (by simp only [List.size_toArray] <;> omega)
  exact inv_newT (s := { s with heap := h' }) (t' := s.toks) (I.kept (t' := s.toks) kp) r' hz (fun _ _ e => Heap.get?_push_of_some _ e) (Nat.le_refl _) (Heap.get?_push_size _ rfl) rfl rfl rfl q
/-- t + t -/
def rCatN (K : PySem.W.Frag) : R2 := fun x y H Q => ∃ a b xs ys, x = .ref a ∧ y = .ref b ∧ SqT K H a xs ∧ SqT K H b ys ∧ xs.length + ys.length ≤ sizeLine ∧ (xs = [] → Q (.ref b) H) ∧ (xs ≠ [] → ys = [] → Q (.ref a) H) ∧ (xs ≠ [] → ys ≠ [] → NewT H (xs ++ ys) Q)
theorem op_catN : OpR X (binaryOp .Add) (rCatN X.K) := by
  rintro pins s σ H x y v u Q I rx ry ⟨a, b, xs, ys, rfl, rfl, ha, hb, hz, q0, q1, q2⟩
  by_cases hx : xs = []
  · exact op_catA pins s σ H _ _ v u Q I rx ry ⟨a, b, xs, ys, rfl, rfl, ha, hb, hz, q0, q1, fun z => absurd hx z⟩
  · by_cases hy : ys = []
    · exact op_catA pins s σ H _ _ v u Q I rx ry ⟨a, b, xs, ys, rfl, rfl, ha, hb, hz, q0, q1, fun _ z => absurd hy z⟩
    · cases rx
      cases ry
      obtain ⟨i1, r1, p1, _⟩ := I.tuple ha
      obtain ⟨i2, r2, p2, _⟩ := I.tuple hb
      refine HT.cat_tup p1 p2 (fun z => hx (r1.nil_iff.mp z)) (fun z => absurd (r2.nil_iff.mp z) hy) (fun z => ?_) (by rw [← r1.length, ← r2.length]; exact hz)
      exact inv_newT (t' := s.toks) I (r1.append r2) (by rw [List.length_append]; exact hz) (fun _ _ e => Heap.get?_push_of_some _ e) (Nat.le_refl _) (Heap.get?_push_size _ rfl) rfl rfl rfl (q2 hx hy)
/-- t[i:j] -/
def rSlN (K : PySem.W.Frag) : V → Option Int → Option Int → Hp → VK → Prop := fun x lo hi H Q => ∃ a xs, x = .ref a ∧ SqT K H a xs ∧
  (HT.sIx xs.length 0 lo = 0 ∧ HT.sIx xs.length xs.length hi = xs.length → Q (.ref a) H) ∧ (¬ (HT.sIx xs.length 0 lo = 0 ∧ HT.sIx xs.length xs.length hi = xs.length) → NewT H (cutV xs lo hi) Q)
theorem sl_tupN : SlR X (rSlN X.K) := by
  rintro pins s σ H x v vl vu lo hi sl Q I rx hs pl pu ⟨a, xs, rfl, hx, q1, q2⟩
  by_cases hw : HT.sIx xs.length 0 lo = 0 ∧ HT.sIx xs.length xs.length hi = xs.length
  · exact sl_tupA pins s σ H _ v vl vu lo hi sl Q I rx hs pl pu ⟨a, xs, rfl, hx, q1, fun z => absurd hw z⟩
  · cases rx
    obtain ⟨its, r, ht, hz⟩ := I.tuple hx
    have el : its.toArray.size = xs.length := by rw [List.size_toArray]; exact r.length.symm
    refine ⟨"tuple", _, PyProof.Rows.slot_tuple_getitem.lookup, ht.typeIs, HT.getItem_tuple_cut ht hs pl pu (by rw [el]; exact hw) ?_ (by rw [el]; exact hz)⟩
    rw [el]
    exact inv_newT (t' := s.toks) I ((r.drop (HT.sIx xs.length 0 lo)).take (HT.sIx xs.length xs.length hi - HT.sIx xs.length 0 lo)) (Nat.le_trans (cutV_length xs lo hi) hz) (fun _ _ e => Heap.get?_push_of_some _ e) (Nat.le_refl _) (Heap.get?_push_size _ rfl) rfl rfl rfl (q2 hw)
/-- t * k -/
def rRepN (K : PySem.W.Frag) : R2 := fun x y H Q => ∃ l k xs, x = .ref l ∧ y = .int k ∧ SqT K H l xs ∧ xs ≠ [] ∧ 2 ≤ k ∧ k ≤ 1000 ∧ xs.length ≤ 1000 ∧ NewT H (List.replicate k.toNat xs).flatten Q
theorem op_repN : OpR X (binaryOp .Mult) (rRepN X.K) := by
  rintro pins s σ H x y v u Q I rx ry ⟨l, k, xs, rfl, rfl, hT, hne, h1, h2, hz, q⟩
  cases rx
  obtain ⟨t, rfl⟩ := ry
  obtain ⟨its, r, ⟨⟨cls, dd, data, sl⟩, ho, hc, n, hd⟩, hs⟩ := I.tuple hT
  simp only at hc hd
  subst hc hd
  have hle : its.length = xs.length := r.length.symm
  have hi : its.toArray.isEmpty = false := by
    cases its with
    | nil => exact absurd (List.eq_nil_of_length_eq_zero hle.symm) hne
    | cons a b => rfl
  have es : its.toArray.size = xs.length := by rw [List.size_toArray, hle]
  have hm : ((its.toArray.size : Nat) : Int) * k ≤ 1000000 := by
    rw [es]
    have a1 : ((xs.length : Nat) : Int) * k ≤ 1000 * k := Int.mul_le_mul_of_nonneg_right (by omega) (by omega)
    omega
  have a2 : k.toNat * xs.length ≤ 1000 * 1000 := Nat.mul_le_mul (by omega) hz
  have fl : (List.replicate k.toNat its).flatten.length ≤ sizeLine := by
    rw [PyProof.Rows.lm_len_rep_flat, hle, sizeLine_eq]
    omega
  have d0 : (decide (k < -(2 ^ 63)) || decide (k ≥ 2 ^ 63)) = false := by simp; omega
  have d1 : (its.toArray.isEmpty || k == 1) = false := by
    rw [hi]; simp; omega
  have d2 : (decide (k ≤ 0) || its.toArray.isEmpty) = false := by
    rw [hi]; simp; omega
  have d4 : Builtin.Tuple.tupleTooMany (((its.toArray.size : Nat) : Int) * k) = false := by
    unfold Builtin.Tuple.tupleTooMany
    rw [sizeLine_eq]
    simp only [decide_eq_false_iff_not]
    omega
  refine wpAny_binaryOp_repeat_ref (T := "tuple") (U := "int") (by decide) ⟨_, ho, rfl⟩ (fun s' => typeIs_int s' k t) noFill_tuple_mul PySem.F.fills_int_mul PySem.F.slot_int_rmul repeat_tuple PySem.F.slot_int_index.lookup
    (call_meets PySem.F.slot_int_rmul (typeIs_int s k t) PySem.F.entry_int_rmul (PySem.F.args_int_rmul_2 _ _) (int_rmul_tuple k t l its.toArray n dd sl) ⟨ho, rfl, ⟨_, ho, rfl⟩,
      call_meets PySem.F.slot_tuple_mul ⟨_, ho, rfl⟩ PySem.F.entry_tuple_mul (PySem.F.args_tuple_mul_2 _ _) (tuple_mulW l its.toArray n dd sl k t d0 d1 d2 (by omega) d4 (by rw [size_rep, List.size_toArray]; exact fl)) ⟨ho, ?_⟩⟩)
  rw [size_rep]
  exact inv_newT (t' := s.toks) I (r.rep k.toNat) (by rw [PyProof.Rows.lm_len_rep_flat, sizeLine_eq]; omega) (fun _ _ e => Heap.get?_push_of_some _ e) (Nat.le_refl _) (Heap.get?_push_size _ rfl) rfl rfl rfl q
end
end G

set_option Elab.async false
set_option linter.all false
set_option maxRecDepth 100000
set_option maxHeartbeats 4000000
/- values told as data: what an expression comes to, by data alone -/
namespace G
open PySem L2 PySem.Spec PyProof.Rows

/-! ### heaps that grow -/
def Sub (H H' : Hp) : Prop := ∀ a o, H a = some o → H' a = some o
theorem Sub.refl (H : Hp) : Sub H H := fun _ _ h => h
theorem Sub.trans {H H1 H2 : Hp} (x : Sub H H1) (y : Sub H1 H2) : Sub H H2 := fun a o h => y a o (x a o h)
theorem Sub.none {H H' : Hp} (x : Sub H H') {a : Addr} (h : H' a = Option.none) : H a = Option.none := by
  cases e : H a with
  | none => rfl
  | some o => rw [x a o e] at h; cases h
theorem Sub.new {H : Hp} {p : Addr} (o : HO) (h : H p = Option.none) : Sub H (upd H p o) := fun a u e => by
  rw [upd_ne (ne_of_none e h)]; exact e
theorem Sub.upd {H H' : Hp} (x : Sub H H') {p : Addr} (o : HO) (h : H p = Option.none) : Sub H (upd H' p o) := fun a u e => by
  rw [upd_ne (ne_of_none e h)]; exact x a u e
theorem Sub.both {H H' : Hp} (x : Sub H H') (p : Addr) (o : HO) : Sub (L2.upd H p o) (L2.upd H' p o) := fun a u e => by
  by_cases h : a = p
  · subst h; rw [upd_same] at e ⊢; exact e
  · rw [upd_ne h] at e ⊢; exact x a u e
theorem Sub.rd {H H' : Hp} (x : Sub H H') {a : Addr} {u : HO} (h : Rd H a u) : Rd H' a u :=
  h.imp (x a _) fun ⟨o, q⟩ => ⟨o, x a _ q⟩

/-- a tuple that keeps no dict (what is needed to call its methods) -/
def Nd (B : Hp) (p : Addr) : Prop := ∃ o u, B p = some (.frz o u) ∧ o.dict = none ∧ o.cls = .type "tuple"
theorem Nd.mono {B B' : Hp} (x : Sub B B') {p : Addr} (h : Nd B p) : Nd B' p := by
  obtain ⟨o, u, e, r⟩ := h
  exact ⟨o, u, x _ _ e, r⟩
/-- dicts as data: their entries, behind one that no repr shows -/
def bigI : Int := 2 ^ 2000
def keyD : Key → PyData
  | .inl i => .int i
  | .inr t => .str t
def dctD (s : List (Key × PyData)) : PyData := .dict ((.int bigI, .none) :: s.map fun kv => (keyD kv.1, kv.2))
/-- the object of a dict whose keys are tuples: where they stand, what is at each -/
def dnHO (w : World) (a : Addr) (xs : List (NestedKey × Addr × Value)) : HO := .ext fun h =>
  ∃ o es ep, h.get? a = some o ∧ o.ExactDict ∧ o.data = .dict es ep ∧ es.toList = xs.map fun x => (⟨NestedKey.hash w x.1, .ref x.2.1, x.2.2⟩ : DictEntry)
/-- dicts with tuple keys as data -/
def dnD (s : List (NestedKey × PyData)) : PyData := .dict ((.int bigI, .int 0) :: s.map fun kv => (kv.1.data, kv.2))
theorem big_no : (PyData.int bigI).showable = false := by decide +kernel
theorem dct_no (s : List (Key × PyData)) : (dctD s).showable = false := by
  unfold dctD
  rw [PyData.showable, PyData.showableKv, big_no]; rfl
theorem nd_sh {d : PyData} (h : SeqAt.shaped d = true) : d.hasDict = false := PyData.hasDict_of_canLay d (SeqAt.canLay_of_shaped h)
theorem nd_all {x : PyData} {xs : List PyData} (h : PyData.hasDictAll (x :: xs) = false) : x.hasDict = false ∧ PyData.hasDictAll xs = false := by
  rw [PyData.hasDictAll, Bool.or_eq_false_iff] at h
  exact h
mutual
/-- a value reads as data, all of its tuples keep no dict -/
inductive Dp (K : PySem.W.Frag) (B : Hp) : V → PyData → Prop
  | non : Dp K B .non .none
  | bl (x : Bool) : Dp K B (.bl x) (.bool x)
  | int (n : Int) : Dp K B (.int n) (.int n)
  | str (z : Str) : Dp K B (.str z) (.str z)
  | lst {p : Addr} {us : List V} {es : List PyData} (s : SqL K B p us) (r : DpAll K B us es) : Dp K B (.ref p) (.list es)
  | tup {p : Addr} {us : List V} {es : List PyData} (s : SqT K B p us) (n : Nd B p) (r : DpAll K B us es) : Dp K B (.ref p) (.tuple es)
  | dct {p : Addr} {r : List (Key × V)} {s : List (Key × PyData)} {o : Obj} (h : B p = some (.frz o (.dK r))) (hk : r.map (·.1) = s.map (·.1)) (t : DpAll K B (r.map (·.2)) (s.map (·.2))) : Dp K B (.ref p) (.dict ((.int bigI, .none) :: s.map fun kv => (keyD kv.1, kv.2)))
  | dnn {w : World} {a : Addr} {xs : List (NestedKey × Addr × Value)} {vs : List V} {s : List (NestedKey × PyData)} (h : B a = some (dnHO w a xs)) (ha : (a == sysModules) = false) (hz : xs.length ≤ 1000000) (nd : (xs.map (·.1)).Nodup) (hk : xs.map (·.1) = s.map (·.1)) (hd : ∀ x ∈ xs, x.1.depth ≤ 8) (hw : ∀ x ∈ xs, ∀ w1 w2, NestedKey.hash w1 x.1 = NestedKey.hash w2 x.1) (t1 : DpAll K B (xs.map fun x => V.ref x.2.1) (s.map fun kv => kv.1.data)) (rv : Vals vs (xs.map fun x => x.2.2)) (t2 : DpAll K B vs (s.map fun kv => kv.2)) : Dp K B (.ref a) (.dict ((.int bigI, .int 0) :: s.map fun kv => (kv.1.data, kv.2)))
inductive DpAll (K : PySem.W.Frag) (B : Hp) : List V → List PyData → Prop
  | nil : DpAll K B [] []
  | cons {u : V} {us : List V} {e : PyData} {es : List PyData} (h : Dp K B u e) (r : DpAll K B us es) : DpAll K B (u :: us) (e :: es)
end
section
variable {K : PySem.W.Frag}
mutual
/-- in the library's words -/
theorem Dp.l2 {B : Hp} : ∀ {d : PyData} {v : V}, Dp K B v d → d.hasDict = false → L2.Dp K B v d
  | _, _, .non, _ => .non
  | _, _, .bl b, _ => .bl b
  | _, _, .int i, _ => .int i
  | _, _, .str z, _ => .str z
  | _, _, .lst s r, h => .lst s (DpAll.l2 r (by rwa [PyData.hasDict] at h))
  | _, _, .tup s _ r, h => .tup s (DpAll.l2 r (by rwa [PyData.hasDict] at h))
  | _, _, .dct _ _ _, h => by simp [PyData.hasDict] at h
  | _, _, .dnn _ _ _ _ _ _ _ _ _ _, h => by simp [PyData.hasDict] at h
theorem DpAll.l2 {B : Hp} : ∀ {ds : List PyData} {vs : List V}, DpAll K B vs ds → PyData.hasDictAll ds = false → L2.DpAll K B vs ds
  | _, _, .nil, _ => .nil
  | _, _, .cons h t, n => .cons (Dp.l2 h (nd_all n).1) (DpAll.l2 t (nd_all n).2)
end
mutual
theorem dp_mono {B B' : Hp} (x : Sub B B') : ∀ {d : PyData} {v : V}, Dp K B v d → Dp K B' v d
  | _, _, .non => .non
  | _, _, .bl b => .bl b
  | _, _, .int i => .int i
  | _, _, .str z => .str z
  | _, _, .lst s r => .lst (s.imp x.rd id) (dpAll_mono x r)
  | _, _, .tup s n r => .tup (s.imp x.rd id) (n.mono x) (dpAll_mono x r)
  | _, _, .dct h hk t => .dct (x _ _ h) hk (dpAll_mono x t)
  | _, _, .dnn h ha hz nd hk hd hw t1 rv t2 => .dnn (x _ _ h) ha hz nd hk hd hw (dpAll_mono x t1) rv (dpAll_mono x t2)
theorem dpAll_mono {B B' : Hp} (x : Sub B B') : ∀ {ds : List PyData} {vs : List V}, DpAll K B vs ds → DpAll K B' vs ds
  | _, _, .nil => .nil
  | _, _, .cons h t => .cons (dp_mono x h) (dpAll_mono x t)
end
theorem DpAll.length {B : Hp} : ∀ {ds : List PyData} {vs : List V}, DpAll K B vs ds → vs.length = ds.length
  | _, _, .nil => rfl
  | _, _, .cons _ t => congrArg (· + 1) (DpAll.length t)
theorem DpAll.get {B : Hp} : ∀ {ds : List PyData} {vs : List V} {i : Nat} {v : V}, DpAll K B vs ds → vs[i]? = some v → ∃ d, ds[i]? = some d ∧ Dp K B v d
  | _, _, _, _, .nil, e => by simp at e
  | _, _, 0, _, .cons h _, e => by simp at e; subst e; exact ⟨_, rfl, h⟩
  | _, _, i + 1, v, .cons _ t, e => by
    obtain ⟨d, h1, h2⟩ := DpAll.get (i := i) (v := v) t (by simpa using e)
    exact ⟨d, by simpa using h1, h2⟩
theorem DpAll.get' {B : Hp} : ∀ {ds : List PyData} {vs : List V} {i : Nat} {d : PyData}, DpAll K B vs ds → ds[i]? = some d → ∃ v, vs[i]? = some v ∧ Dp K B v d
  | _, _, _, _, .nil, e => by simp at e
  | _, _, 0, _, .cons h _, e => by simp at e; subst e; exact ⟨_, rfl, h⟩
  | _, _, i + 1, d, .cons _ t, e => by
    obtain ⟨v, h1, h2⟩ := DpAll.get' (i := i) (d := d) t (by simpa using e)
    exact ⟨v, by simpa using h1, h2⟩
theorem DpAll.append {B : Hp} : ∀ {ds es : List PyData} {vs us : List V}, DpAll K B vs ds → DpAll K B us es → DpAll K B (vs ++ us) (ds ++ es)
  | _, _, _, _, .nil, s => s
  | _, _, _, _, .cons h t, s => .cons h (DpAll.append t s)
theorem DpAll.take {B : Hp} : ∀ {ds : List PyData} {vs : List V} (n : Nat), DpAll K B vs ds → DpAll K B (vs.take n) (ds.take n)
  | _, _, 0, _ => by simp; exact .nil
  | _, _, n + 1, .nil => by simp; exact .nil
  | _, _, n + 1, .cons h t => by simp; exact .cons h (DpAll.take n t)
theorem DpAll.drop {B : Hp} : ∀ {ds : List PyData} {vs : List V} (n : Nat), DpAll K B vs ds → DpAll K B (vs.drop n) (ds.drop n)
  | _, _, 0, r => r
  | _, _, n + 1, .nil => .nil
  | _, _, n + 1, .cons h t => DpAll.drop n t
theorem DpAll.reverse {B : Hp} : ∀ {ds : List PyData} {vs : List V}, DpAll K B vs ds → DpAll K B vs.reverse ds.reverse
  | _, _, .nil => .nil
  | _, _, .cons h t => by
    simp only [List.reverse_cons]
    exact G.DpAll.append (DpAll.reverse t) (.cons h .nil)
theorem DpAll.set {B : Hp} {v : V} {d : PyData} (q : Dp K B v d) : ∀ {ds : List PyData} {vs : List V} (i : Nat), DpAll K B vs ds → DpAll K B (vs.set i v) (ds.set i d)
  | _, _, _, .nil => .nil
  | _, _, 0, .cons h t => .cons q t
  | _, _, i + 1, .cons h t => .cons h (DpAll.set q i t)
theorem dpAll_ints {B : Hp} : ∀ ns : List Int, DpAll K B (ns.map V.int) (ns.map PyData.int)
  | [] => .nil
  | n :: r => .cons (.int n) (dpAll_ints r)
/-- values that read as whole numbers are these -/
theorem DpAll.ints {B : Hp} : ∀ {ns : List Int} {vs : List V}, DpAll K B vs (ns.map PyData.int) → vs = ns.map V.int
  | [], _, h => by cases h; rfl
  | n :: r, _, h => by
    cases h with
    | cons h t =>
      cases h
      rw [DpAll.ints t]; rfl
end

/-! ### what stands in a slot -/
structure Src where
  cells : List Int
  left : Int
  mixed : Int
  turn : Int

/-- an object that is our own, and may change -/
inductive Ob where
  | lst (xs : List PyData)
  | dk (kvs : List (Key × PyData))
  | src (a : Addr) (st : Src)
  | dn (w : World) (kvs : List (NestedKey × PyData))
  | srd (a l : Addr) (st : Src)
  | lsA (l : Addr) (xs : List Int)
  | fdn (w : World) (kvs : List (NestedKey × PyData))
inductive Sl where
  | un
  | d (x : PyData)
  | o (b : Ob)
abbrev Env' := List Sl

def srcKvs (l : Addr) (st : Src) : List (Key × V) :=
  [(.inr "cells", .ref l), (.inr "left", .int st.left), (.inr "mixed", .int st.mixed), (.inr "turn", .int st.turn)]

inductive KvAll (K : PySem.W.Frag) (B : Hp) : List (Key × V) → List (Key × PyData) → Prop
  | nil : KvAll K B [] []
  | cons {k : Key} {v : V} {d : PyData} {r : List (Key × V)} {s : List (Key × PyData)} : Dp K B v d → KvAll K B r s → KvAll K B ((k, v) :: r) ((k, d) :: s)
theorem KvAll.mono {K : PySem.W.Frag} {B B' : Hp} (x : Sub B B') : ∀ {r : List (Key × V)} {s : List (Key × PyData)}, KvAll K B r s → KvAll K B' r s
  | _, _, .nil => .nil
  | _, _, .cons h t => .cons (dp_mono x h) (t.mono x)
theorem KvAll.length {K : PySem.W.Frag} {B : Hp} : ∀ {r : List (Key × V)} {s : List (Key × PyData)}, KvAll K B r s → r.length = s.length
  | _, _, .nil => rfl
  | _, _, .cons _ t => congrArg (· + 1) t.length

inductive NkAll (K : PySem.W.Frag) (B : Hp) : List (NestedKey × Addr × Value) → List (NestedKey × PyData) → Prop
  | nil : NkAll K B [] []
  | cons {k : NestedKey} {a : Addr} {u : Value} {v : V} {d : PyData} {r : List (NestedKey × Addr × Value)} {s : List (NestedKey × PyData)} :
      Dp K B (.ref a) k.data → k.depth ≤ 8 → RelV v u → Dp K B v d → NkAll K B r s → NkAll K B ((k, a, u) :: r) ((k, d) :: s)
theorem NkAll.mono {K : PySem.W.Frag} {B B' : Hp} (x : Sub B B') : ∀ {r : List (NestedKey × Addr × Value)} {s : List (NestedKey × PyData)}, NkAll K B r s → NkAll K B' r s
  | _, _, .nil => .nil
  | _, _, .cons h1 h2 h3 h4 t => .cons (dp_mono x h1) h2 h3 (dp_mono x h4) (t.mono x)
theorem NkAll.length {K : PySem.W.Frag} {B : Hp} : ∀ {r : List (NestedKey × Addr × Value)} {s : List (NestedKey × PyData)}, NkAll K B r s → r.length = s.length
  | _, _, .nil => rfl
  | _, _, .cons _ _ _ _ t => congrArg (· + 1) t.length

inductive ObAt (K : PySem.W.Frag) (B H : Hp) : V → List Addr → Ob → Prop
  | lst {a : Addr} {vs : List V} {xs : List PyData} : H a = some (.lst vs) → DpAll K B vs xs → ObAt K B H (.ref a) [a] (.lst xs)
  | dk {a : Addr} {r : List (Key × V)} {s : List (Key × PyData)} : H a = some (.dK r) → KvAll K B r s → ObAt K B H (.ref a) [a] (.dk s)
  | src {a l : Addr} {st : Src} : a ≠ l → H a = some (.dK (srcKvs l st)) → H l = some (.lst (st.cells.map V.int)) → ObAt K B H (.ref a) [a, l] (.src a st)
  | dn {w : World} {a : Addr} {xs : List (NestedKey × Addr × Value)} {kvs : List (NestedKey × PyData)} : H a = some (dnHO w a xs) → (a == sysModules) = false → xs.length ≤ 1000000 → (xs.map (·.1)).Nodup → NkAll K B xs kvs → ObAt K B H (.ref a) [a] (.dn w kvs)
  | srd {a l : Addr} {st : Src} : a ≠ l → H a = some (.dK (srcKvs l st)) → ObAt K B H (.ref a) [a] (.srd a l st)
  | lsA {l : Addr} {xs : List Int} : H l = some (.lst (xs.map V.int)) → ObAt K B H (.ref l) [l] (.lsA l xs)
  | fdn {w : World} {a : Addr} {xs : List (NestedKey × Addr × Value)} {kvs : List (NestedKey × PyData)} : B a = some (dnHO w a xs) → (a == sysModules) = false → xs.length ≤ 1000000 → (xs.map (·.1)).Nodup → NkAll K B xs kvs → ObAt K B H (.ref a) [] (.fdn w kvs)

theorem ObAt.live {K : PySem.W.Frag} {B H : Hp} {v : V} {as : List Addr} {b : Ob} (h : ObAt K B H v as b) : ∀ a ∈ as, ∃ o, H a = some o := by
  intro a ha
  cases h with
  | lst h _ =>
    have e : a = _ := List.mem_singleton.mp ha
    subst e; exact ⟨_, h⟩
  | dk h _ =>
    have e : a = _ := List.mem_singleton.mp ha
    subst e; exact ⟨_, h⟩
  | src n h1 h2 =>
    rcases List.mem_cons.mp ha with e | e
    · subst e; exact ⟨_, h1⟩
    · have e := List.mem_singleton.mp e
      subst e; exact ⟨_, h2⟩
  | dn h _ _ _ _ =>
    have e : a = _ := List.mem_singleton.mp ha
    subst e; exact ⟨_, h⟩
  | srd _ h =>
    have e : a = _ := List.mem_singleton.mp ha
    subst e; exact ⟨_, h⟩
  | lsA h =>
    have e : a = _ := List.mem_singleton.mp ha
    subst e; exact ⟨_, h⟩
  | fdn _ _ _ _ _ => cases ha
theorem ObAt.mono {K : PySem.W.Frag} {B B' H H' : Hp} {v : V} {as : List Addr} {b : Ob} (h : ObAt K B H v as b) (x : Sub B B') (e : ∀ a ∈ as, H' a = H a) : ObAt K B' H' v as b := by
  cases h with
  | lst h r => exact .lst ((e _ List.mem_cons_self).trans h) (dpAll_mono x r)
  | dk h r => exact .dk ((e _ List.mem_cons_self).trans h) (r.mono x)
  | src n h1 h2 => exact .src n ((e _ List.mem_cons_self).trans h1) ((e _ (List.mem_cons_of_mem _ List.mem_cons_self)).trans h2)
  | dn h z l n t => exact .dn ((e _ List.mem_cons_self).trans h) z l n (t.mono x)
  | srd n h => exact .srd n ((e _ List.mem_cons_self).trans h)
  | lsA h => exact .lsA ((e _ List.mem_cons_self).trans h)
  | fdn h z l n t => exact .fdn (x _ _ h) z l n (t.mono x)

inductive SlAt (K : PySem.W.Frag) (B H : Hp) : Option V → List Addr → Sl → Prop
  | un {x : Option V} : SlAt K B H x [] .un
  | d {v : V} {x : PyData} : Dp K B v x → SlAt K B H (some v) [] (.d x)
  | o {v : V} {as : List Addr} {b : Ob} : ObAt K B H v as b → SlAt K B H (some v) as (.o b)
theorem SlAt.live {K : PySem.W.Frag} {B H : Hp} {v : Option V} {as : List Addr} {b : Sl} (h : SlAt K B H v as b) : ∀ a ∈ as, ∃ o, H a = some o := by
  cases h with
  | un => intro a z; cases z
  | d _ => intro a z; cases z
  | o h => exact h.live
theorem SlAt.mono {K : PySem.W.Frag} {B B' H H' : Hp} {v : Option V} {as : List Addr} {b : Sl} (h : SlAt K B H v as b) (x : Sub B B') (e : ∀ a ∈ as, H' a = H a) : SlAt K B' H' v as b := by
  cases h with
  | un => exact .un
  | d h => exact .d (dp_mono x h)
  | o h => exact .o (h.mono x e)

def gS (ρ : Env') (i : Nat) : Sl := (ρ[i]?).getD .un
def gV (σ : L2.St) (i : Nat) : Option V := (σ[i]?).getD none
theorem gS_set {ρ : Env'} {i j : Nat} {s : Sl} : gS (ρ.set i s) j = if j = i ∧ i < ρ.length then s else gS ρ j := by
  unfold gS
  by_cases e : j = i
  · subst e
    by_cases h : j < ρ.length
    · simp [h]
    · simp [h]
  · simp [e, List.getElem?_set_ne (Ne.symm e)]
theorem gV_set {σ : L2.St} {i j : Nat} {s : Option V} : gV (σ.set i s) j = if j = i ∧ i < σ.length then s else gV σ j := by
  unfold gV
  by_cases e : j = i
  · subst e
    by_cases h : j < σ.length
    · simp [h]
    · simp [h]
  · simp [e, List.getElem?_set_ne (Ne.symm e)]
theorem gV_some {σ : L2.St} {i : Nat} {v : V} (h : gV σ i = some v) : σ[i]? = some (some v) := by
  unfold gV at h
  cases e : σ[i]? with
  | none => rw [e] at h; cases h
  | some x => rw [e] at h; exact congrArg some h
theorem gS_some {ρ : Env'} {i : Nat} {s : Sl} (h : ρ[i]? = some s) : gS ρ i = s := by unfold gS; rw [h]; rfl

/-- the state: F is to be left as it is, Z stays out of what is told, B is what stands for good -/
structure Ok (K : PySem.W.Frag) (F : Hp) (Z : Addr → Prop) (B H : Hp) (σ : L2.St) (ρ : Env') : Prop where
  exF : Sub F H
  exB : Sub B H
  z : ∀ a, Z a → B a = none ∧ ∃ o, H a = some o
  len : σ.length = ρ.length
  own : ∃ own : Nat → List Addr, (∀ i a, a ∈ own i → F a = none ∧ B a = none ∧ ¬ Z a) ∧ (∀ i j a, a ∈ own i → a ∈ own j → i = j) ∧ ∀ i, SlAt K B H (gV σ i) (own i) (gS ρ i)

section
variable {K : PySem.W.Frag} {F : Hp} {Z : Addr → Prop} {B B' H H' : Hp} {σ σ' : L2.St} {ρ ρ' : Env'} {p a : Addr} {o : HO}
theorem Ok.fresh (k : Ok K F Z B H σ ρ) (h : H p = none) : F p = none ∧ B p = none ∧ ¬ Z p := by
  refine ⟨k.exF.none h, k.exB.none h, fun z => ?_⟩
  obtain ⟨_, o, e⟩ := k.z p z
  rw [h] at e; cases e
/-- what stands for good grows, nothing of ours is touched -/
theorem Ok.grow (k : Ok K F Z B H σ ρ) (xB : Sub B B') (xH : Sub H H') (xBH : Sub B' H') (out : ∀ a, H a ≠ none → B a = none → B' a = none) : Ok K F Z B' H' σ ρ := by
  refine ⟨k.exF.trans xH, xBH, fun a z => ?_, k.len, ?_⟩
  · obtain ⟨h1, o, h2⟩ := k.z a z
    exact ⟨out a (by rw [h2]; simp) h1, o, xH a o h2⟩
  · obtain ⟨own, h1, h2, h3⟩ := k.own
    refine ⟨own, fun i a ha => ?_, h2, fun i => (h3 i).mono xB fun a ha => ?_⟩
    · obtain ⟨q1, q2, q3⟩ := h1 i a ha
      obtain ⟨o, e⟩ := (h3 i).live a ha
      exact ⟨q1, out a (by rw [e]; simp) q2, q3⟩
    · obtain ⟨o, e⟩ := (h3 i).live a ha
      rw [e, xH a o e]
/-- a new thing that stands for good -/
theorem Ok.new (k : Ok K F Z B H σ ρ) (h : H p = none) (o : HO) : Ok K F Z (upd B p o) (upd H p o) σ ρ :=
  k.grow (Sub.new o (k.exB.none h)) (Sub.new o h) (k.exB.both p o) fun a ha hb => by
    rw [upd_ne fun e => ha (by rw [e]; exact h)]; exact hb
/-- a new thing that is nobody's yet -/
theorem Ok.loose (k : Ok K F Z B H σ ρ) (h : H p = none) (o : HO) : Ok K F Z B (upd H p o) σ ρ :=
  k.grow (Sub.refl B) (Sub.new o h) (k.exB.trans (Sub.new o h)) fun _ _ hb => hb
theorem Ok.at (k : Ok K F Z B H σ ρ) {i : Nat} {x : PyData} (h : gS ρ i = .d x) : ∃ v, gV σ i = some v ∧ Dp K B v x := by
  obtain ⟨own, _, _, h3⟩ := k.own
  have q := h3 i
  rw [h] at q
  generalize hv : gV σ i = w at q
  generalize hs : own i = as at q
  cases q with
  | d q => exact ⟨_, rfl, q⟩
theorem Ok.ob (k : Ok K F Z B H σ ρ) {i : Nat} {b : Ob} (h : gS ρ i = .o b) : ∃ v as, gV σ i = some v ∧ ObAt K B H v as b ∧ (∀ a ∈ as, F a = none ∧ B a = none ∧ ¬ Z a) := by
  obtain ⟨own, h1, _, h3⟩ := k.own
  have q := h3 i
  have q1 := h1 i
  rw [h] at q
  generalize hv : gV σ i = w at q
  generalize hs : own i = as at q q1
  cases q with
  | o q => exact ⟨_, _, rfl, q, q1⟩
theorem Ok.slot (k : Ok K F Z B H σ ρ) {i : Nat} {s : Sl} (h : ρ[i]? = some s) : i < σ.length := by
  rw [k.len]; exact (List.getElem?_eq_some_iff.mp h).1
/-- a slot is stored, data -/
theorem Ok.setD (k : Ok K F Z B H σ ρ) {i : Nat} {v : V} {x : PyData} (h : Dp K B v x) : Ok K F Z B H (σ.set i (some v)) (ρ.set i (.d x)) := by
  refine ⟨k.exF, k.exB, k.z, by simp [k.len], ?_⟩
  obtain ⟨own, h1, h2, h3⟩ := k.own
  refine ⟨fun j => if j = i ∧ i < ρ.length then [] else own j, fun j a ha => ?_, fun j m a ha hb => ?_, fun j => ?_⟩
  · dsimp only at ha
    split at ha
    · cases ha
    · exact h1 j a ha
  · dsimp only at ha hb
    split at ha
    · cases ha
    · split at hb
      · cases hb
      · exact h2 j m a ha hb
  · rw [gS_set, gV_set, k.len]
    dsimp only
    by_cases e : j = i ∧ i < ρ.length
    · rw [if_pos e, if_pos e, if_pos e]; exact .d h
    · rw [if_neg e, if_neg e, if_neg e]; exact h3 j
/-- a slot is stored, a new object of our own at p -/
theorem Ok.setO (k : Ok K F Z B H σ ρ) {i : Nat} {v : V} {as : List Addr} {b : Ob} (hi : i < ρ.length) (h : ObAt K B H v as b) (hf : ∀ a ∈ as, F a = none ∧ B a = none ∧ ¬ Z a) (hn : ∀ own : Nat → List Addr, (∀ j, SlAt K B H (gV σ j) (own j) (gS ρ j)) → (∀ j a, a ∈ own j → F a = none ∧ B a = none ∧ ¬ Z a) → ∀ j, j ≠ i → ∀ a ∈ as, a ∉ own j) :
    Ok K F Z B H (σ.set i (some v)) (ρ.set i (.o b)) := by
  refine ⟨k.exF, k.exB, k.z, by simp [k.len], ?_⟩
  obtain ⟨own, h1, h2, h3⟩ := k.own
  have hn := hn own h3 h1
  refine ⟨fun j => if j = i then as else own j, fun j a ha => ?_, fun j m a ha hb => ?_, fun j => ?_⟩
  · dsimp only at ha
    split at ha
    · exact hf a ha
    · exact h1 j a ha
  · dsimp only at ha hb
    by_cases e : j = i
    · by_cases e' : m = i
      · exact e.trans e'.symm
      · rw [if_pos e] at ha; rw [if_neg e'] at hb
        exact absurd hb (hn m e' a ha)
    · by_cases e' : m = i
      · rw [if_neg e] at ha; rw [if_pos e'] at hb
        exact absurd ha (hn j e a hb)
      · rw [if_neg e] at ha; rw [if_neg e'] at hb
        exact h2 j m a ha hb
  · rw [gS_set, gV_set, k.len]
    dsimp only
    by_cases e : j = i
    · subst e
      simp only [hi, and_true, if_true]
      exact .o h
    · simp only [e, false_and, if_false]
      exact h3 j
/-- forgetting -/
def Wk (ρ ρ' : Env') : Prop := ρ.length = ρ'.length ∧ ∀ i, gS ρ' i = gS ρ i ∨ gS ρ' i = .un
theorem Wk.refl (ρ : Env') : Wk ρ ρ := ⟨rfl, fun _ => .inl rfl⟩
theorem Wk.trans {ρ1 ρ2 ρ3 : Env'} (x : Wk ρ1 ρ2) (y : Wk ρ2 ρ3) : Wk ρ1 ρ3 := ⟨x.1.trans y.1, fun i => (y.2 i).elim (fun e => (x.2 i).imp (fun q => e.trans q) fun q => e.trans q) .inr⟩
theorem Wk.nil : Wk [] [] := .refl _
theorem Wk.cons {s : Sl} {r r' : Env'} (h : Wk r r') : Wk (s :: r) (s :: r') :=
  ⟨congrArg (· + 1) h.1, fun i => by cases i with | zero => exact .inl rfl | succ i => exact h.2 i⟩
theorem Wk.drop {s : Sl} {r r' : Env'} (h : Wk r r') : Wk (s :: r) (.un :: r') :=
  ⟨congrArg (· + 1) h.1, fun i => by cases i with | zero => exact .inr rfl | succ i => exact h.2 i⟩
def ifO : Sl → List Addr → List Addr
  | .o _, as => as
  | _, _ => []
theorem ifO_sub {s : Sl} {as : List Addr} {a : Addr} (h : a ∈ ifO s as) : a ∈ as := by
  cases s with
  | un => cases h
  | d _ => cases h
  | o _ => exact h
theorem Ok.weak (k : Ok K F Z B H σ ρ) (w : Wk ρ ρ') : Ok K F Z B H σ ρ' := by
  refine ⟨k.exF, k.exB, k.z, k.len.trans w.1, ?_⟩
  obtain ⟨own, h1, h2, h3⟩ := k.own
  refine ⟨fun j => ifO (gS ρ' j) (own j), fun j a ha => h1 j a (ifO_sub ha), fun j m a ha hb => h2 j m a (ifO_sub ha) (ifO_sub hb), fun j => ?_⟩
  have q := h3 j
  dsimp only
  rcases w.2 j with e | e
  · rw [e]
    generalize gV σ j = v at q ⊢
    generalize gS ρ j = s at q ⊢
    generalize own j = as at q ⊢
    cases q with
    | un => exact .un
    | d q => exact .d q
    | o q => exact .o q
  · rw [e]; exact .un
end
end G

set_option Elab.async false
set_option linter.all false
set_option maxRecDepth 100000
set_option maxHeartbeats 4000000
/- judgements on data -/
namespace G
open PySem L2 PySem.Spec PyProof.Rows

/-! ### the strongest readings -/
def sE (X : Cx) (e : Expr) : TE := fun σ H Q => ∃ t, PE X e t ∧ t σ H Q
def sT (X : Cx) (e : Expr) : TT := fun σ H Q => ∃ t, PT X e t ∧ t σ H Q
def sW (X : Cx) (e : Expr) : TT := fun σ H Q => ∃ t, PW X e t ∧ t σ H Q
def sA (X : Cx) (es : List Expr) : TA := fun σ H Q => ∃ t, PA X es t ∧ t σ H Q
def sS (X : Cx) (st : Stmt) : TS := fun D σ H => ∃ t, PS X st t ∧ t D σ H
def sB (X : Cx) (sts : List Stmt) : TS := fun D σ H => ∃ t, PSs X sts t ∧ t D σ H
def sG (X : Cx) (tg : Expr) : TG := fun v σ H Q => ∃ t, PG X tg t ∧ t v σ H Q
def sGs (X : Cx) (tgs : List Expr) : TGs := fun vs σ H Q => ∃ t, PGs X tgs t ∧ t vs σ H Q
section
variable {X : Cx}
theorem pe_s {e : Expr} : PE X e (sE X e) := ⟨fun pins s σ H Q I ⟨_, h, q⟩ => h.run pins s σ H Q I q⟩
theorem pt_s {e : Expr} : PT X e (sT X e) := ⟨fun pins s σ H Q I ⟨_, h, q⟩ => h.run pins s σ H Q I q⟩
theorem pw_s {e : Expr} : PW X e (sW X e) := ⟨fun wh pins s σ H Q I ⟨_, h, q⟩ => h.run wh pins s σ H Q I q⟩
theorem pa_s {es : List Expr} : PA X es (sA X es) := ⟨fun pos pins s σ H Q I ⟨_, h, q⟩ => h.run pos pins s σ H Q I q⟩
theorem ps_s {st : Stmt} : PS X st (sS X st) := ⟨fun pins s σ H D I ⟨_, h, q⟩ => h.run pins s σ H D I q⟩
theorem pb_s {sts : List Stmt} : PSs X sts (sB X sts) := ⟨fun pins s σ H D I ⟨_, h, q⟩ => h.run pins s σ H D I q⟩
theorem pg_s {tg : Expr} : PG X tg (sG X tg) := ⟨fun pins s σ H v u Q I r ⟨_, h, q⟩ => h.run pins s σ H v u Q I r q⟩
theorem pgs_s {tgs : List Expr} : PGs X tgs (sGs X tgs) := ⟨fun pins s σ H vs us Q I r ⟨_, h, q⟩ => h.run pins s σ H vs us Q I r q⟩
end

/-! ### what a value is -/
inductive R where
  | d (x : PyData)
  | o (i : Nat)
def VR (K : PySem.W.Frag) (B : Hp) (σ : L2.St) (v : V) : R → Prop
  | .d x => Dp K B v x
  | .o i => gV σ i = some v
theorem VR.mono {K : PySem.W.Frag} {B B' : Hp} {σ : L2.St} {v : V} {r : R} (x : Sub B B') (h : VR K B σ v r) : VR K B' σ v r := by
  cases r with
  | d _ => exact dp_mono x h
  | o _ => exact h

/-- p is of nobody -/
structure New (K : PySem.W.Frag) (F : Hp) (Z : Addr → Prop) (B H : Hp) (σ : L2.St) (ρ : Env') (p : Addr) : Prop where
  f : F p = none
  b : B p = none
  z : ¬ Z p
  o : ∀ j b v as, gS ρ j = .o b → gV σ j = some v → ObAt K B H v as b → p ∉ as

section
variable {K : PySem.W.Frag} {F : Hp} {Z : Addr → Prop} {B B' H H' : Hp} {σ σ' : L2.St} {ρ ρ' : Env'} {p a : Addr} {o : HO}
theorem ObAt.uni {v : V} {as as' : List Addr} {b : Ob} (h : ObAt K B H v as b) (h' : ObAt K B' H' v as' b) (e : ∀ a, a ∈ as' → H a = H' a) : as = as' := by
  cases h with
  | lst h _ => cases h'; rfl
  | dk h _ => cases h'; rfl
  | dn h _ _ _ _ => cases h'; rfl
  | srd _ _ => cases h'; rfl
  | lsA _ => cases h'; rfl
  | fdn _ _ _ _ _ => cases h'; rfl
  | src n h1 h2 =>
    cases h' with
    | src n' h1' h2' =>
      have q := e _ List.mem_cons_self
      rw [h1, h1'] at q
      have q2 := HO.dK.inj (Option.some.inj q)
      unfold srcKvs at q2
      injection q2 with q3 _
      have q4 := (Prod.mk.inj q3).2
      rw [V.ref.inj q4]
theorem Ok.laid (k : Ok K F Z B H σ ρ) (h : H p = none) (o : HO) : New K F Z B (upd H p o) σ ρ p := by
  obtain ⟨f1, f2, f3⟩ := k.fresh h
  refine ⟨f1, f2, f3, fun j b v as h1 h2 h3 hp => ?_⟩
  obtain ⟨v', as', g1, g2, g3⟩ := k.ob h1
  rw [h2] at g1
  cases g1
  have live := g2.live
  have e : as = as' := ObAt.uni h3 g2 fun a ha => by
    obtain ⟨u, hu⟩ := live a ha
    rw [upd_ne (ne_of_none hu h)]
  rw [e] at hp
  obtain ⟨u, hu⟩ := live p hp
  rw [h] at hu; cases hu
theorem New.not (n : New K F Z B H σ ρ p) {own : Nat → List Addr} (h : ∀ j, SlAt K B H (gV σ j) (own j) (gS ρ j)) (j : Nat) : p ∉ own j := by
  have q := h j
  have no := n.o j
  generalize hv : gV σ j = v at q no
  generalize hs : gS ρ j = s at q no
  generalize own j = as at q
  cases q with
  | un => simp
  | d _ => simp
  | o q => exact no _ _ _ rfl rfl q
/-- it becomes one that stands for good -/
theorem Ok.adopt (k : Ok K F Z B H σ ρ) (n : New K F Z B H σ ρ p) (h : H p = some o) : Ok K F Z (upd B p o) H σ ρ := by
  obtain ⟨own, h1, h2, h3⟩ := k.own
  refine ⟨k.exF, fun a u e => ?_, fun a z => ?_, k.len, own, fun i a ha => ?_, h2, fun i => (h3 i).mono (Sub.new o n.b) fun _ _ => rfl⟩
  · by_cases ea : a = p
    · subst ea; rw [upd_same] at e; rw [h]; exact e
    · rw [upd_ne ea] at e; exact k.exB a u e
  · have ea : a ≠ p := fun e => n.z (e ▸ z)
    rw [upd_ne ea]; exact k.z a z
  · have ea : a ≠ p := fun e => n.not h3 i (e ▸ ha)
    rw [upd_ne ea]; exact h1 i a ha
/-- .. or one of our own -/
theorem Ok.take (k : Ok K F Z B H σ ρ) (n : New K F Z B H σ ρ p) {i : Nat} {b : Ob} (hi : i < ρ.length) (h : ObAt K B H (.ref p) [p] b) : Ok K F Z B H (σ.set i (some (.ref p))) (ρ.set i (.o b)) :=
  k.setO hi h (fun a ha => by have e := List.mem_singleton.mp ha; subst e; exact ⟨n.f, n.b, n.z⟩) fun own h3 _ j _ a ha => by
    have e := List.mem_singleton.mp ha; subst e; exact n.not h3 j
theorem Ok.setU (k : Ok K F Z B H σ ρ) {i : Nat} {v : V} : Ok K F Z B H (σ.set i (some v)) (ρ.set i .un) := by
  refine ⟨k.exF, k.exB, k.z, by simp [k.len], ?_⟩
  obtain ⟨own, h1, h2, h3⟩ := k.own
  refine ⟨fun j => if j = i ∧ i < ρ.length then [] else own j, fun j a ha => ?_, fun j m a ha hb => ?_, fun j => ?_⟩
  · dsimp only at ha
    split at ha
    · cases ha
    · exact h1 j a ha
  · dsimp only at ha hb
    split at ha
    · cases ha
    · split at hb
      · cases hb
      · exact h2 j m a ha hb
  · rw [gS_set, gV_set, k.len]
    dsimp only
    by_cases e : j = i ∧ i < ρ.length
    · rw [if_pos e, if_pos e, if_pos e]; exact .un
    · rw [if_neg e, if_neg e, if_neg e]; exact h3 j
/-- an object of our own turns into another, at the same places -/
theorem Ok.turn (k : Ok K F Z B H σ ρ) {i : Nat} {b b' : Ob} {v : V} {as : List Addr} (hs : gS ρ i = .o b) (hv : gV σ i = some v) (h : ObAt K B H v as b) (h' : ObAt K B H' v as b') (e : ∀ a, a ∉ as → H' a = H a) : Ok K F Z B H' σ (ρ.set i (.o b')) := by
  obtain ⟨own, h1, h2, h3⟩ := k.own
  have hi : i < ρ.length := by
    apply Classical.byContradiction
    intro n
    have : gS ρ i = .un := by unfold gS; rw [List.getElem?_eq_none (by omega)]; rfl
    rw [this] at hs; cases hs
  have eo : own i = as := by
    have q := h3 i
    rw [hs, hv] at q
    generalize own i = o at q
    cases q with
    | o q => exact ObAt.uni q h fun _ _ => rfl
  have out : ∀ {a : Addr} {Y : Hp} {u : HO}, Y a = some u → Y = F ∨ Y = B → a ∉ as := by
    intro a Y u q1 q2 q3
    rw [← eo] at q3
    obtain ⟨z1, z2, _⟩ := h1 i a q3
    rcases q2 with r | r
    · rw [r, z1] at q1; cases q1
    · rw [r, z2] at q1; cases q1
  refine ⟨fun a u q => ?_, fun a u q => ?_, fun a z => ?_, by simp [k.len], own, h1, h2, fun j => ?_⟩
  · rw [e a (out q (.inl rfl))]; exact k.exF a u q
  · rw [e a (out q (.inr rfl))]; exact k.exB a u q
  · have na : a ∉ as := fun q => (h1 i a (eo ▸ q)).2.2 z
    rw [e a na]; exact k.z a z
  · rw [gS_set]
    by_cases ej : j = i
    · subst ej
      simp only [hi, and_true, if_true]
      rw [hv, eo]; exact .o h'
    · simp only [ej, false_and, if_false]
      refine (h3 j).mono (Sub.refl B) fun a ha => e a fun q => ej (h2 j i a ha (eo ▸ q))
end

/-! ### judgements -/
section
variable (X : Cx)
def DE (ρ : Env') (e : Expr) (r : R) (ρ' : Env') : Prop := ∀ F Z B H σ Q, Ok X.K F Z B H σ ρ → (∀ v B' H', Ok X.K F Z B' H' σ ρ' → Sub B B' → VR X.K B' σ v r → Q v H') → sE X e σ H Q
/-- a new list -/
def DL (ρ : Env') (e : Expr) (xs : List PyData) (ρ' : Env') : Prop := ∀ F Z B H σ Q, Ok X.K F Z B H σ ρ →
  (∀ p vs B' H', Ok X.K F Z B' H' σ ρ' → Sub B B' → New X.K F Z B' H' σ ρ' p → H' p = some (.lst vs) → DpAll X.K B' vs xs → Q (.ref p) H') → sE X e σ H Q
def DT (ρ : Env') (e : Expr) (b : Bool) (ρ' : Env') : Prop := ∀ F Z B H σ Q, Ok X.K F Z B H σ ρ → (∀ B' H', Ok X.K F Z B' H' σ ρ' → Sub B B' → Q b H') → sT X e σ H Q
def DW (ρ : Env') (e : Expr) (b : Bool) (ρ' : Env') : Prop := ∀ F Z B H σ Q, Ok X.K F Z B H σ ρ → (∀ B' H', Ok X.K F Z B' H' σ ρ' → Sub B B' → Q b H') → sW X e σ H Q
def DA (ρ : Env') (es : List Expr) (ds : List PyData) (ρ' : Env') : Prop := ∀ F Z B H σ Q, Ok X.K F Z B H σ ρ → (∀ vs B' H', Ok X.K F Z B' H' σ ρ' → Sub B B' → DpAll X.K B' vs ds → Q vs H') → sA X es σ H Q
inductive O where
  | nx (ρ : Env')
  | rt (d : PyData) (ρ : Env')
  | bk (ρ : Env')
  | ct (ρ : Env')
def Fin' (K : PySem.W.Frag) (F : Hp) (Z : Addr → Prop) (B : Hp) (D : Ends) : O → Prop
  | .nx ρ' => ∀ B' H' σ', Ok K F Z B' H' σ' ρ' → Sub B B' → D.nx σ' H'
  | .bk ρ' => ∀ B' H' σ', Ok K F Z B' H' σ' ρ' → Sub B B' → D.bk σ' H'
  | .ct ρ' => ∀ B' H' σ', Ok K F Z B' H' σ' ρ' → Sub B B' → D.ct σ' H'
  | .rt d ρ' => ∀ v B' H' σ', Ok K F Z B' H' σ' ρ' → Sub B B' → Dp K B' v d → D.rt v H'
def DS (ρ : Env') (st : Stmt) (o : O) : Prop := ∀ F Z B H σ D, Ok X.K F Z B H σ ρ → Fin' X.K F Z B D o → sS X st D σ H
def DB (ρ : Env') (sts : List Stmt) (o : O) : Prop := ∀ F Z B H σ D, Ok X.K F Z B H σ ρ → Fin' X.K F Z B D o → sB X sts D σ H
end
theorem Fin'.sub {K : PySem.W.Frag} {F : Hp} {Z : Addr → Prop} {B B' : Hp} {D : Ends} {o : O} (x : Sub B B') (h : Fin' K F Z B D o) : Fin' K F Z B' D o := by
  cases o with
  | nx _ => exact fun B2 H2 σ2 k y => h B2 H2 σ2 k (x.trans y)
  | bk _ => exact fun B2 H2 σ2 k y => h B2 H2 σ2 k (x.trans y)
  | ct _ => exact fun B2 H2 σ2 k y => h B2 H2 σ2 k (x.trans y)
  | rt _ _ => exact fun v B2 H2 σ2 k y => h v B2 H2 σ2 k (x.trans y)

section
variable {X : Cx} {ρ ρ1 ρ2 ρ3 : Env'} {a b e : Expr} {es : List Expr} {r1 r2 r3 : R} {pos : Pos}

theorem DL.de {xs : List PyData} (h : DL X ρ e xs ρ1) : DE X ρ e (.d (.list xs)) ρ1 := fun F Z B H σ Q k q =>
  h F Z B H σ Q k fun p vs B' H' k' x n hp dv => q _ _ _ (k'.adopt n hp) (x.trans (Sub.new _ n.b)) (Dp.lst (SqL.of upd_same) (dpAll_mono (Sub.new _ n.b) dv))

/-! ### names, constants -/
theorem de_name {i : Nat} {x : Str} {y : PyData} (hs : ρ[i]? = some (.d y) := by rfl) (hN : X.N[i]? = some x := by rfl) (hv : Vis X.env.scope x := by first | exact Or.inl rfl | exact Or.inr (Or.inl rfl) | exact Or.inr (Or.inr rfl)) (hd : (x == ("__debug__" : Str)) = false := by decide)
    (hcd : (x == ("__classdict__" : Str)) = false := by decide) : DE X ρ (.Name x pos) (.d y) ρ := fun F Z B H σ Q k q => by
  obtain ⟨v, h1, h2⟩ := k.at (gS_some hs)
  exact ⟨_, pe_var hN hv hd hcd, v, gV_some h1, q v B H k (Sub.refl B) h2⟩
theorem de_own {i : Nat} {x : Str} {b : Ob} (hs : ρ[i]? = some (.o b) := by rfl) (hN : X.N[i]? = some x := by rfl) (hv : Vis X.env.scope x := by first | exact Or.inl rfl | exact Or.inr (Or.inl rfl) | exact Or.inr (Or.inr rfl)) (hd : (x == ("__debug__" : Str)) = false := by decide)
    (hcd : (x == ("__classdict__" : Str)) = false := by decide) : DE X ρ (.Name x pos) (.o i) ρ := fun F Z B H σ Q k q => by
  obtain ⟨v, as, h1, h2, _⟩ := k.ob (gS_some hs)
  exact ⟨_, pe_var hN hv hd hcd, v, gV_some h1, q v B H k (Sub.refl B) h1⟩
theorem de_int {i j} : DE X ρ (.Constant (.int i) j pos) (.d (.int i)) ρ := fun F Z B H σ Q k q => ⟨_, pe_int, q _ B H k (Sub.refl B) (.int i)⟩
theorem de_str {i j} : DE X ρ (.Constant (.str i) j pos) (.d (.str i)) ρ := fun F Z B H σ Q k q => ⟨_, pe_str, q _ B H k (Sub.refl B) (.str i)⟩
theorem de_bl {i j} : DE X ρ (.Constant (.bool i) j pos) (.d (.bool i)) ρ := fun F Z B H σ Q k q => ⟨_, pe_bl, q _ B H k (Sub.refl B) (.bl i)⟩
theorem de_non {j} : DE X ρ (.Constant .none j pos) (.d .none) ρ := fun F Z B H σ Q k q => ⟨_, pe_non, q _ B H k (Sub.refl B) .non⟩

/-! ### two parts, then an operation -/
theorem DE.two (ha : DE X ρ a r1 ρ1) (hb : DE X ρ1 b r2 ρ2) {F : Hp} {Z : Addr → Prop} {B H : Hp} {σ : L2.St} {Q : V → V → Hp → Prop} (k : Ok X.K F Z B H σ ρ)
    (q : ∀ v1 v2 B2 H2, Ok X.K F Z B2 H2 σ ρ2 → Sub B B2 → VR X.K B2 σ v1 r1 → VR X.K B2 σ v2 r2 → Q v1 v2 H2) : sE X a σ H fun x H1 => sE X b σ H1 fun y H2 => Q x y H2 :=
  ha F Z B H σ _ k fun v1 B1 H1 k1 x1 w1 => hb F Z B1 H1 σ _ k1 fun v2 B2 H2 k2 x2 w2 => q v1 v2 B2 H2 k2 (x1.trans x2) (w1.mono x2) w2
/-- what an operation by values does -/
def OpD (K : PySem.W.Frag) (rr : R2) (ρ : Env') (r1 r2 r3 : R) : Prop := ∀ F Z B H σ Q v1 v2, Ok K F Z B H σ ρ → VR K B σ v1 r1 → VR K B σ v2 r2 → (∀ v3 B' H', Ok K F Z B' H' σ ρ → Sub B B' → VR K B' σ v3 r3 → Q v3 H') → rr v1 v2 H Q
theorem de_op {op : Operator} {rr : R2} (ho : OpR X (binaryOp op) rr) (hd : OpD X.K rr ρ2 r1 r2 r3) (ha : DE X ρ a r1 ρ1) (hb : DE X ρ1 b r2 ρ2) : DE X ρ (.BinOp a op b pos) r3 ρ2 := fun F Z B H σ Q k q =>
  ⟨_, pe_op ho pe_s pe_s, DE.two ha hb k fun v1 v2 B2 H2 k2 x w1 w2 => hd F Z B2 H2 σ Q v1 v2 k2 w1 w2 fun v3 B3 H3 k3 y w3 => q v3 B3 H3 k3 (x.trans y) w3⟩
theorem de_cmp {op : CmpOp} {rr : R2} (ho : OpR X (compareOp op) rr) (hd : OpD X.K rr ρ2 r1 r2 r3) (hm : behindInMarks op b = false) (ha : DE X ρ a r1 ρ1) (hb : DE X ρ1 b r2 ρ2) : DE X ρ (.Compare a [op] [b] pos) r3 ρ2 := fun F Z B H σ Q k q =>
  ⟨_, pe_cmpR ho pe_s pe_s hm, DE.two ha hb k fun v1 v2 B2 H2 k2 x w1 w2 => hd F Z B2 H2 σ Q v1 v2 k2 w1 w2 fun v3 B3 H3 k3 y w3 => q v3 B3 H3 k3 (x.trans y) w3⟩
theorem dt_cmp {op : CmpOp} {rr : R2} {c : Bool} (ho : OpR X (compareOp op) rr) (hd : OpD X.K rr ρ2 r1 r2 (.d (.bool c))) (hm : behindInMarks op b = false) (ha : DE X ρ a r1 ρ1) (hb : DE X ρ1 b r2 ρ2) : DT X ρ (.Compare a [op] [b] pos) c ρ2 := fun F Z B H σ Q k q =>
  ⟨_, pt_cmpR ho pe_s pe_s hm, DE.two ha hb k fun v1 v2 B2 H2 k2 x w1 w2 => hd F Z B2 H2 σ _ v1 v2 k2 w1 w2 fun v3 B3 H3 k3 y w3 => by
    cases w3
    exact ⟨c, rfl, q B3 H3 k3 (x.trans y)⟩⟩

section
variable {i j : Int}
theorem od_I0 {g : Int → Int → V} {y : PyData} (h : ∀ (K : PySem.W.Frag) B, Dp K B (g i j) y) {K : PySem.W.Frag} : OpD K (rI0 g) ρ (.d (.int i)) (.d (.int j)) (.d y) := fun F Z B H σ Q v1 v2 k w1 w2 q => by
  cases w1; cases w2
  exact ⟨i, j, rfl, rfl, q _ B H k (Sub.refl B) (h K B)⟩
theorem od_I {C : Int → Int → Prop} {g : Int → Int → V} {y : PyData} (hc : C i j) (h : ∀ (K : PySem.W.Frag) B, Dp K B (g i j) y) {K : PySem.W.Frag} : OpD K (rI C g) ρ (.d (.int i)) (.d (.int j)) (.d y) := fun F Z B H σ Q v1 v2 k w1 w2 q => by
  cases w1; cases w2
  exact ⟨i, j, rfl, rfl, hc, q _ B H k (Sub.refl B) (h K B)⟩
theorem de_add (ha : DE X ρ a (.d (.int i)) ρ1) (hb : DE X ρ1 b (.d (.int j)) ρ2) : DE X ρ (.BinOp a .Add b pos) (.d (.int (i + j))) ρ2 := de_op op_add (od_I0 fun _ _ => .int _) ha hb
theorem de_sub (ha : DE X ρ a (.d (.int i)) ρ1) (hb : DE X ρ1 b (.d (.int j)) ρ2) : DE X ρ (.BinOp a .Sub b pos) (.d (.int (i - j))) ρ2 := de_op op_sub (od_I0 fun _ _ => .int _) ha hb
theorem de_mul (hc : CMul i j) (ha : DE X ρ a (.d (.int i)) ρ1) (hb : DE X ρ1 b (.d (.int j)) ρ2) : DE X ρ (.BinOp a .Mult b pos) (.d (.int (i * j))) ρ2 := de_op op_mul (od_I hc fun _ _ => .int _) ha hb
theorem de_mod (hc : 0 < j) (ha : DE X ρ a (.d (.int i)) ρ1) (hb : DE X ρ1 b (.d (.int j)) ρ2) : DE X ρ (.BinOp a .Mod b pos) (.d (.int (i % j))) ρ2 := de_op op_mod (od_I (C := fun _ m => 0 < m) hc fun _ _ => .int _) ha hb
theorem de_fdiv (hc : CDiv i j) (ha : DE X ρ a (.d (.int i)) ρ1) (hb : DE X ρ1 b (.d (.int j)) ρ2) : DE X ρ (.BinOp a .FloorDiv b pos) (.d (.int (i / j))) ρ2 := de_op op_fdiv (od_I hc fun _ _ => .int _) ha hb
theorem dt_lt (ha : DE X ρ a (.d (.int i)) ρ1) (hb : DE X ρ1 b (.d (.int j)) ρ2) : DT X ρ (.Compare a [.Lt] [b] pos) (decide (i < j)) ρ2 := dt_cmp op_lt (od_I0 fun _ _ => .bl _) (nomark b) ha hb
theorem dt_le (ha : DE X ρ a (.d (.int i)) ρ1) (hb : DE X ρ1 b (.d (.int j)) ρ2) : DT X ρ (.Compare a [.LtE] [b] pos) (decide (i ≤ j)) ρ2 := dt_cmp op_le (od_I0 fun _ _ => .bl _) (nomark b) ha hb
theorem dt_gt (ha : DE X ρ a (.d (.int i)) ρ1) (hb : DE X ρ1 b (.d (.int j)) ρ2) : DT X ρ (.Compare a [.Gt] [b] pos) (decide (j < i)) ρ2 := dt_cmp op_gt (od_I0 fun _ _ => .bl _) (nomark b) ha hb
theorem dt_ge (ha : DE X ρ a (.d (.int i)) ρ1) (hb : DE X ρ1 b (.d (.int j)) ρ2) : DT X ρ (.Compare a [.GtE] [b] pos) (decide (j ≤ i)) ρ2 := dt_cmp op_ge (od_I0 fun _ _ => .bl _) (nomark b) ha hb
theorem de_lt (ha : DE X ρ a (.d (.int i)) ρ1) (hb : DE X ρ1 b (.d (.int j)) ρ2) : DE X ρ (.Compare a [.Lt] [b] pos) (.d (.bool (decide (i < j)))) ρ2 := de_cmp op_lt (od_I0 fun _ _ => .bl _) (nomark b) ha hb
end

/-! ### equality of data -/
section
variable {x y : PyData}
theorem od_eqD {K : PySem.W.Frag} (hx : SeqAt.shaped x = true) (hy : SeqAt.shaped y = true) : OpD K (rEqD K) ρ (.d x) (.d y) (.d (.bool (PyData.eqv x y))) := fun F Z B H σ Q v1 v2 k w1 w2 q =>
  ⟨x, y, (dp_mono k.exB w1).l2 (nd_sh hx), (dp_mono k.exB w2).l2 (nd_sh hy), hx, hy, q _ B H k (Sub.refl B) (.bl _)⟩
theorem od_neD {K : PySem.W.Frag} (hx : SeqAt.shaped x = true) (hy : SeqAt.shaped y = true) : OpD K (rNeD K) ρ (.d x) (.d y) (.d (.bool (!PyData.eqv x y))) := fun F Z B H σ Q v1 v2 k w1 w2 q =>
  ⟨x, y, (dp_mono k.exB w1).l2 (nd_sh hx), (dp_mono k.exB w2).l2 (nd_sh hy), hx, hy, q _ B H k (Sub.refl B) (.bl _)⟩
end
end
/-- a new tuple, all of it data -/
theorem Ok.newT {K : PySem.W.Frag} {F : Hp} {Z : Addr → Prop} {B H : Hp} {σ : L2.St} {ρ : Env'} {vs : List V} {xs : List PyData} {Q : VK} (k : Ok K F Z B H σ ρ) (w : DpAll K B vs xs)
    (q : ∀ v B' H', Ok K F Z B' H' σ ρ → Sub B B' → Dp K B' v (.tuple xs) → Q v H') : NewT H vs Q := fun p o hp hd hc => by
  have n := k.fresh hp
  exact q _ _ _ (k.new hp _) (Sub.new _ n.2.1) (.tup (.inl (.inr ⟨o, upd_same⟩)) ⟨o, _, upd_same, hd, hc⟩ (dpAll_mono (Sub.new _ n.2.1) w))
end G

set_option Elab.async false
set_option linter.all false
set_option maxRecDepth 100000
set_option maxHeartbeats 4000000
/- rules for expressions, on data -/
namespace G
open PySem L2 PySem.Spec PyProof.Rows

section
variable {X : Cx} {ρ ρ1 ρ2 ρ3 : Env'} {a b c e : Expr} {es : List Expr} {r r1 r2 r3 : R} {pos : Pos}

/-! ### tests -/
theorem dt_eqD {x y : PyData} (hu : X.A.units + 64 < cLine) (hx : SeqAt.shaped x = true) (hy : SeqAt.shaped y = true) (ha : DE X ρ a (.d x) ρ1) (hb : DE X ρ1 b (.d y) ρ2) : DT X ρ (.Compare a [.Eq] [b] pos) (PyData.eqv x y) ρ2 :=
  dt_cmp (op_eqD hu) (od_eqD hx hy) (nomark b) ha hb
theorem dt_neD {x y : PyData} (hu : X.A.units + 64 < cLine) (hx : SeqAt.shaped x = true) (hy : SeqAt.shaped y = true) (ha : DE X ρ a (.d x) ρ1) (hb : DE X ρ1 b (.d y) ρ2) : DT X ρ (.Compare a [.NotEq] [b] pos) (!PyData.eqv x y) ρ2 :=
  dt_cmp (op_neD hu) (od_neD hx hy) (nomark b) ha hb
theorem de_eqD {x y : PyData} (hu : X.A.units + 64 < cLine) (hx : SeqAt.shaped x = true) (hy : SeqAt.shaped y = true) (ha : DE X ρ a (.d x) ρ1) (hb : DE X ρ1 b (.d y) ρ2) : DE X ρ (.Compare a [.Eq] [b] pos) (.d (.bool (PyData.eqv x y))) ρ2 :=
  de_cmp (op_eqD hu) (od_eqD hx hy) (nomark b) ha hb
theorem od_eqI {K : PySem.W.Frag} {i j : Int} : OpD K rEq ρ (.d (.int i)) (.d (.int j)) (.d (.bool (decide (i = j)))) := fun F Z B H σ Q v1 v2 k w1 w2 q => by
  cases w1; cases w2
  have e : decide (V.int i = V.int j) = decide (i = j) := by simp
  exact ⟨rfl, e ▸ q _ B H k (Sub.refl B) (.bl _)⟩
theorem od_neI {K : PySem.W.Frag} {i j : Int} : OpD K rNe ρ (.d (.int i)) (.d (.int j)) (.d (.bool (!decide (i = j)))) := fun F Z B H σ Q v1 v2 k w1 w2 q => by
  cases w1; cases w2
  have e : decide (V.int i = V.int j) = decide (i = j) := by simp
  exact ⟨rfl, by rw [e]; exact q _ B H k (Sub.refl B) (.bl _)⟩
theorem od_neS {K : PySem.W.Frag} {i j : Str} : OpD K rNe ρ (.d (.str i)) (.d (.str j)) (.d (.bool (!decide (i = j)))) := fun F Z B H σ Q v1 v2 k w1 w2 q => by
  cases w1; cases w2
  have e : decide (V.str i = V.str j) = decide (i = j) := by simp
  exact ⟨rfl, by rw [e]; exact q _ B H k (Sub.refl B) (.bl _)⟩
theorem dt_eqI {i j : Int} (ha : DE X ρ a (.d (.int i)) ρ1) (hb : DE X ρ1 b (.d (.int j)) ρ2) : DT X ρ (.Compare a [.Eq] [b] pos) (decide (i = j)) ρ2 := dt_cmp op_eq od_eqI (nomark b) ha hb
theorem dt_neI {i j : Int} (ha : DE X ρ a (.d (.int i)) ρ1) (hb : DE X ρ1 b (.d (.int j)) ρ2) : DT X ρ (.Compare a [.NotEq] [b] pos) (!decide (i = j)) ρ2 := dt_cmp op_ne od_neI (nomark b) ha hb
theorem dt_neS {i j : Str} (ha : DE X ρ a (.d (.str i)) ρ1) (hb : DE X ρ1 b (.d (.str j)) ρ2) : DT X ρ (.Compare a [.NotEq] [b] pos) (!decide (i = j)) ρ2 := dt_cmp op_ne od_neS (nomark b) ha hb
def isNon : PyData → Bool
  | .none => true
  | _ => false
theorem dp_non {K : PySem.W.Frag} {B : Hp} {v : V} {x : PyData} (h : Dp K B v x) : decide (v = .non) = isNon x := by
  cases h <;> first | rfl | simp [isNon]
theorem dt_isN {x : PyData} {j pos'} (ha : DE X ρ a (.d x) ρ1) : DT X ρ (.Compare a [.Is] [.Constant .none j pos'] pos) (isNon x) ρ1 :=
  dt_cmp op_isN (fun F Z B H σ Q v1 v2 k w1 w2 q => by
    cases w2
    exact ⟨rfl, q _ B H k (Sub.refl B) (by rw [dp_non w1]; exact .bl _)⟩) (nomark _) ha de_non
theorem dt_notN {x : PyData} {j pos'} (ha : DE X ρ a (.d x) ρ1) : DT X ρ (.Compare a [.IsNot] [.Constant .none j pos'] pos) (!isNon x) ρ1 :=
  dt_cmp op_notN (fun F Z B H σ Q v1 v2 k w1 w2 q => by
    cases w2
    exact ⟨rfl, q _ B H k (Sub.refl B) (by rw [dp_non w1]; exact .bl _)⟩) (nomark _) ha de_non
theorem dt_not {x : Bool} (h : DT X ρ a x ρ1) : DT X ρ (.UnaryOp .Not a pos) (!x) ρ1 := fun F Z B H σ Q k q => ⟨_, pt_not pt_s, h F Z B H σ _ k q⟩
theorem DW.dt {x : Bool} (h : DW X ρ a x ρ1) : DT X ρ a x ρ1 := fun F Z B H σ Q k q => ⟨_, pw_s.pt, h F Z B H σ Q k q⟩
theorem dw_and1 {x : Bool} (h : DT X ρ a x ρ1) : DW X ρ (.BoolOp .And [a] pos) x ρ1 := fun F Z B H σ Q k q => ⟨_, pw_and1 pt_s, h F Z B H σ Q k q⟩
theorem dw_or1 {x : Bool} (h : DT X ρ a x ρ1) : DW X ρ (.BoolOp .Or [a] pos) x ρ1 := fun F Z B H σ Q k q => ⟨_, pw_or1 pt_s, h F Z B H σ Q k q⟩
/-- and: the rest is asked where the first is true; ρ2 is the end in both cases -/
theorem dw_and {x y : Bool} (h : DT X ρ a x ρ1) (h1 : x = true → DW X ρ1 (.BoolOp .And (b :: es) pos) y ρ2) (h2 : x = false → ρ2 = ρ1) : DW X ρ (.BoolOp .And (a :: b :: es) pos) (x && y) ρ2 := fun F Z B H σ Q k q =>
  ⟨_, pw_and pt_s pw_s, h F Z B H σ _ k fun B1 H1 k1 x1 => by
    cases x with
    | true =>
      rw [if_pos rfl]
      exact h1 rfl F Z B1 H1 σ Q k1 fun B2 H2 k2 x2 => q B2 H2 k2 (x1.trans x2)
    | false =>
      rw [if_neg (by decide)]
      have e := h2 rfl
      subst e
      exact q B1 H1 k1 x1⟩
theorem dw_or {x y : Bool} (h : DT X ρ a x ρ1) (h1 : x = false → DW X ρ1 (.BoolOp .Or (b :: es) pos) y ρ2) (h2 : x = true → ρ2 = ρ1) : DW X ρ (.BoolOp .Or (a :: b :: es) pos) (x || y) ρ2 := fun F Z B H σ Q k q =>
  ⟨_, pw_or pt_s pw_s, h F Z B H σ _ k fun B1 H1 k1 x1 => by
    cases x with
    | false =>
      rw [if_neg (by decide)]
      exact h1 rfl F Z B1 H1 σ Q k1 fun B2 H2 k2 x2 => q B2 H2 k2 (x1.trans x2)
    | true =>
      rw [if_pos rfl]
      have e := h2 rfl
      subst e
      exact q B1 H1 k1 x1⟩
theorem dt_is {x y : Bool} (h : DT X ρ a x ρ1) (e : x = y) : DT X ρ a y ρ1 := e ▸ h
theorem de_is {x y : PyData} (h : DE X ρ a (.d x) ρ1) (e : x = y) : DE X ρ a (.d y) ρ1 := e ▸ h
/-- a value that is a bool, as a test -/
theorem dt_val {x : Bool} (h : DE X ρ a (.d (.bool x)) ρ1) (he : ∀ whole, isTrue a X.env whole = (do let v ← whole; standAt a.pos; holding [v] (truthy v)) := by intro _; rfl) : DT X ρ a x ρ1 := fun F Z B H σ Q k q =>
  ⟨_, pt_val pe_s he, h F Z B H σ _ k fun v B1 H1 k1 x1 w => by
    cases w
    exact ⟨x, rfl, q B1 H1 k1 x1⟩⟩
theorem de_ifE {x : Bool} {y : PyData} (h : DT X ρ c x ρ1) (h1 : x = true → DE X ρ1 a (.d y) ρ2) (h2 : x = false → DE X ρ1 b (.d y) ρ2) : DE X ρ (.IfExp c a b pos) (.d y) ρ2 := fun F Z B H σ Q k q =>
  ⟨_, pe_ifExp pt_s pe_s pe_s, h F Z B H σ _ k fun B1 H1 k1 x1 => by
    cases x with
    | true =>
      rw [if_pos rfl]
      exact h1 rfl F Z B1 H1 σ Q k1 fun v B2 H2 k2 x2 w => q v B2 H2 k2 (x1.trans x2) w
    | false =>
      rw [if_neg (by decide)]
      exact h2 rfl F Z B1 H1 σ Q k1 fun v B2 H2 k2 x2 w => q v B2 H2 k2 (x1.trans x2) w⟩

/-! ### lists of parts -/
theorem da_nil : DA X ρ [] [] ρ := fun F Z B H σ Q k q => ⟨_, pa_nil, q [] B H k (Sub.refl B) .nil⟩
theorem da_cons {x : PyData} {xs : List PyData} (h : DE X ρ e (.d x) ρ1) (t : DA X ρ1 es xs ρ2) (hs : starEach (e :: es) X.env = (false, eval e X.env) :: starEach es X.env := by rfl) : DA X ρ (e :: es) (x :: xs) ρ2 := fun F Z B H σ Q k q =>
  ⟨_, pa_cons pe_s pa_s hs, h F Z B H σ _ k fun v B1 H1 k1 x1 w1 => t F Z B1 H1 σ _ k1 fun vs B2 H2 k2 x2 w2 => q (v :: vs) B2 H2 k2 (x1.trans x2) (.cons (dp_mono x2 w1) w2)⟩
theorem de_tup {xs : List PyData} {x1} (h : DA X ρ es xs ρ1) (hz : xs.length ≤ sizeLine := by first | exact Nat.le_trans (Nat.le_of_ble_eq_true rfl) (by decide : 64 ≤ sizeLine) | assumption) : DE X ρ (.Tuple es x1 pos) (.d (.tuple xs)) ρ1 := fun F Z B H σ Q k q =>
  ⟨_, pe_tupN pa_s, h F Z B H σ _ k fun vs B1 H1 k1 y w => ⟨by rw [DpAll.length w]; exact hz, k1.newT w fun v B2 H2 k2 y2 w2 => q v B2 H2 k2 (y.trans y2) w2⟩⟩
theorem dl_lst {xs : List PyData} (h : DA X ρ es xs ρ1) (hz : xs.length ≤ sizeLine := by first | exact Nat.le_trans (Nat.le_of_ble_eq_true rfl) (by decide : 64 ≤ sizeLine) | assumption) : DL X ρ (.List es pos) xs ρ1 := fun F Z B H σ Q k q =>
  ⟨_, pe_lst pa_s, h F Z B H σ _ k fun vs B1 H1 k1 y w => ⟨by rw [DpAll.length w]; exact hz, fun p hp => q p vs B1 _ (k1.loose hp _) y (k1.laid hp _) upd_same w⟩⟩

/-! ### what reads as a list, a tuple -/
inductive RL (ρ : Env') : R → List PyData → Prop
  | d {xs : List PyData} : RL ρ (.d (.list xs)) xs
  | o {i : Nat} {xs : List PyData} : ρ[i]? = some (.o (.lst xs)) → RL ρ (.o i) xs
theorem RL.at {K : PySem.W.Frag} {F : Hp} {Z : Addr → Prop} {B H : Hp} {σ : L2.St} {v : V} {xs : List PyData} (h : RL ρ r xs) (k : Ok K F Z B H σ ρ) (w : VR K B σ v r) : ∃ p vs, v = .ref p ∧ SqL K H p vs ∧ DpAll K B vs xs := by
  cases h with
  | d =>
    cases w with
    | lst s t => exact ⟨_, _, rfl, s.imp k.exB.rd id, t⟩
  | o hs =>
    obtain ⟨v', as, h1, h2, _⟩ := k.ob (gS_some hs)
    have w' : gV σ _ = some v := w
    rw [w'] at h1
    cases h1
    cases h2 with
    | lst h t => exact ⟨_, _, rfl, SqL.of h, t⟩
theorem tup_at {K : PySem.W.Frag} {F : Hp} {Z : Addr → Prop} {B H : Hp} {σ : L2.St} {v : V} {xs : List PyData} (k : Ok K F Z B H σ ρ) (w : VR K B σ v (.d (.tuple xs))) : ∃ p vs, v = .ref p ∧ SqT K H p vs ∧ (SqT K B p vs ∧ Nd B p) ∧ DpAll K B vs xs := by
  cases w with
  | tup s n t => exact ⟨_, _, rfl, s.imp k.exB.rd id, ⟨s, n⟩, t⟩
/-- what reads as either -/
inductive RQ (ρ : Env') : R → List PyData → Prop
  | l {r : R} {xs : List PyData} : RL ρ r xs → RQ ρ r xs
  | t {xs : List PyData} : RQ ρ (.d (.tuple xs)) xs
theorem RQ.at {K : PySem.W.Frag} {F : Hp} {Z : Addr → Prop} {B H : Hp} {σ : L2.St} {v : V} {xs : List PyData} (h : RQ ρ r xs) (k : Ok K F Z B H σ ρ) (w : VR K B σ v r) : ∃ p vs, v = .ref p ∧ (SqL K H p vs ∨ SqT K H p vs) ∧ DpAll K B vs xs := by
  cases h with
  | l h =>
    obtain ⟨p, vs, e, s, t⟩ := h.at k w
    exact ⟨p, vs, e, .inl s, t⟩
  | t =>
    obtain ⟨p, vs, e, s, _, t⟩ := tup_at k w
    exact ⟨p, vs, e, .inr s, t⟩

/-! ### calls of built-ins with one argument -/
def C1 (K : PySem.W.Frag) (rr : List V → Hp → VK → Prop) (ρ : Env') (r r3 : R) : Prop := ∀ F Z B H σ Q v, Ok K F Z B H σ ρ → VR K B σ v r → (∀ v3 B' H', Ok K F Z B' H' σ ρ → Sub B B' → VR K B' σ v3 r3 → Q v3 H') → rr [v] H Q
def C1L (K : PySem.W.Frag) (rr : List V → Hp → VK → Prop) (ρ : Env') (r : R) (xs : List PyData) : Prop := ∀ F Z B H σ Q v, Ok K F Z B H σ ρ → VR K B σ v r →
  (∀ p vs B' H', Ok K F Z B' H' σ ρ → Sub B B' → New K F Z B' H' σ ρ p → H' p = some (.lst vs) → DpAll K B' vs xs → Q (.ref p) H') → rr [v] H Q
section
variable {id T : String} {rr : List V → Hp → VK → Prop} {x : Str} {p : Pos}
theorem de_cB (hc : CallR X (.builtin id) rr) (hd : C1 X.K rr ρ1 r r3) (hv : bootBuiltins x = some (.builtin id)) (hm : X.mg x = none) (hg : Gl X x) (h : DE X ρ e r ρ1) (hn : x ≠ "__name__" := by decide) (hdb : (x == ("__debug__" : Str)) = false := by decide)
    (he : starEach [e] X.env = (false, eval e X.env) :: starEach [] X.env := by rfl) (hpl : (backTo pos (starEach [] X.env)).any (·.1) = false := by rfl) : DE X ρ (.Call (.Name x p) [e] [] pos) r3 ρ1 := fun F Z B H σ Q k q =>
  ⟨_, pe_callB hc hg hm hv (pa_cons pe_s pa_nil he) hn hdb he hpl, h F Z B H σ _ k fun v B1 H1 k1 x1 w => hd F Z B1 H1 σ Q v k1 w fun v3 B2 H2 k2 x2 w2 => q v3 B2 H2 k2 (x1.trans x2) w2⟩
theorem de_cT (hc : CallR X (.type T) rr) (hd : C1 X.K rr ρ1 r r3) (hv : bootBuiltins x = some (.type T)) (hm : X.mg x = none) (hg : Gl X x) (h : DE X ρ e r ρ1) (hn : x ≠ "__name__" := by decide) (hdb : (x == ("__debug__" : Str)) = false := by decide)
    (he : starEach [e] X.env = (false, eval e X.env) :: starEach [] X.env := by rfl) (hpl : (backTo pos (starEach [] X.env)).any (·.1) = false := by rfl) : DE X ρ (.Call (.Name x p) [e] [] pos) r3 ρ1 := fun F Z B H σ Q k q =>
  ⟨_, pe_callTy hc hg hm hv (pa_cons pe_s pa_nil he) hn hdb he hpl, h F Z B H σ _ k fun v B1 H1 k1 x1 w => hd F Z B1 H1 σ Q v k1 w fun v3 B2 H2 k2 x2 w2 => q v3 B2 H2 k2 (x1.trans x2) w2⟩
theorem dl_cB {xs : List PyData} (hc : CallR X (.builtin id) rr) (hd : C1L X.K rr ρ1 r xs) (hv : bootBuiltins x = some (.builtin id)) (hm : X.mg x = none) (hg : Gl X x) (h : DE X ρ e r ρ1) (hn : x ≠ "__name__" := by decide) (hdb : (x == ("__debug__" : Str)) = false := by decide)
    (he : starEach [e] X.env = (false, eval e X.env) :: starEach [] X.env := by rfl) (hpl : (backTo pos (starEach [] X.env)).any (·.1) = false := by rfl) : DL X ρ (.Call (.Name x p) [e] [] pos) xs ρ1 := fun F Z B H σ Q k q =>
  ⟨_, pe_callB hc hg hm hv (pa_cons pe_s pa_nil he) hn hdb he hpl, h F Z B H σ _ k fun v B1 H1 k1 x1 w => hd F Z B1 H1 σ Q v k1 w fun p vs B2 H2 k2 x2 n hp w2 => q p vs B2 H2 k2 (x1.trans x2) n hp w2⟩
theorem dl_cT {xs : List PyData} (hc : CallR X (.type T) rr) (hd : C1L X.K rr ρ1 r xs) (hv : bootBuiltins x = some (.type T)) (hm : X.mg x = none) (hg : Gl X x) (h : DE X ρ e r ρ1) (hn : x ≠ "__name__" := by decide) (hdb : (x == ("__debug__" : Str)) = false := by decide)
    (he : starEach [e] X.env = (false, eval e X.env) :: starEach [] X.env := by rfl) (hpl : (backTo pos (starEach [] X.env)).any (·.1) = false := by rfl) : DL X ρ (.Call (.Name x p) [e] [] pos) xs ρ1 := fun F Z B H σ Q k q =>
  ⟨_, pe_callTy hc hg hm hv (pa_cons pe_s pa_nil he) hn hdb he hpl, h F Z B H σ _ k fun v B1 H1 k1 x1 w => hd F Z B1 H1 σ Q v k1 w fun p vs B2 H2 k2 x2 n hp w2 => q p vs B2 H2 k2 (x1.trans x2) n hp w2⟩
end
section
variable {p : Pos} {xs : List PyData}
theorem de_len (hq : RQ ρ1 r xs) (hm : X.mg "len" = none) (h : DE X ρ e r ρ1) (hg : Gl X "len" := by rfl) (he : starEach [e] X.env = (false, eval e X.env) :: starEach [] X.env := by rfl) (hpl : (backTo pos (starEach [] X.env)).any (·.1) = false := by rfl) :
    DE X ρ (.Call (.Name "len" p) [e] [] pos) (.d (.int xs.length)) ρ1 :=
  de_cB call_len_seq (fun F Z B H σ Q v k w q => by
    obtain ⟨p, vs, e, s, t⟩ := hq.at k w
    exact ⟨p, vs, congrArg (fun z => [z]) e, s, q _ B H k (Sub.refl B) (by rw [DpAll.length t]; exact .int _)⟩) PySem.boot_len hm hg h (by decide) (by decide) he hpl
theorem de_tupL (hq : RL ρ1 r xs) (hm : X.mg "tuple" = none) (h : DE X ρ e r ρ1) (hg : Gl X "tuple" := by rfl) (he : starEach [e] X.env = (false, eval e X.env) :: starEach [] X.env := by rfl) (hpl : (backTo pos (starEach [] X.env)).any (·.1) = false := by rfl) :
    DE X ρ (.Call (.Name "tuple" p) [e] [] pos) (.d (.tuple xs)) ρ1 :=
  de_cT call_tupleN (fun F Z B H σ Q v k w q => by
    obtain ⟨p, vs, e, s, t⟩ := hq.at k w
    exact ⟨p, vs, congrArg (fun z => [z]) e, s, k.newT t q⟩) PyProof.Rows.boot_tuple hm hg h (by decide) (by decide) he hpl
theorem de_tupT (hm : X.mg "tuple" = none) (h : DE X ρ e (.d (.tuple xs)) ρ1) (hg : Gl X "tuple" := by rfl) (he : starEach [e] X.env = (false, eval e X.env) :: starEach [] X.env := by rfl) (hpl : (backTo pos (starEach [] X.env)).any (·.1) = false := by rfl) :
    DE X ρ (.Call (.Name "tuple" p) [e] [] pos) (.d (.tuple xs)) ρ1 :=
  de_cT call_tuple_of (fun F Z B H σ Q v k w q => by
    obtain ⟨p, vs, e, s, s', t⟩ := tup_at k w
    exact ⟨p, vs, congrArg (fun z => [z]) e, .inr ⟨s, q _ B H k (Sub.refl B) (.tup s'.1 s'.2 t)⟩⟩) PyProof.Rows.boot_tuple hm hg h (by decide) (by decide) he hpl
theorem dl_list (hq : RQ ρ1 r xs) (hm : X.mg "list" = none) (h : DE X ρ e r ρ1) (hg : Gl X "list" := by rfl) (he : starEach [e] X.env = (false, eval e X.env) :: starEach [] X.env := by rfl) (hpl : (backTo pos (starEach [] X.env)).any (·.1) = false := by rfl) :
    DL X ρ (.Call (.Name "list" p) [e] [] pos) xs ρ1 :=
  dl_cT call_list_of (fun F Z B H σ Q v k w q => by
    obtain ⟨p, vs, e, s, t⟩ := hq.at k w
    exact ⟨p, vs, congrArg (fun z => [z]) e, s, fun l hl => q l vs B _ (k.loose hl _) (Sub.refl B) (k.laid hl _) upd_same t⟩) PyProof.Rows.boot_list hm hg h (by decide) (by decide) he hpl
theorem de_abs {i : Int} (hm : X.mg "abs" = none) (h : DE X ρ e (.d (.int i)) ρ1) (hg : Gl X "abs" := by rfl) (he : starEach [e] X.env = (false, eval e X.env) :: starEach [] X.env := by rfl) (hpl : (backTo pos (starEach [] X.env)).any (·.1) = false := by rfl) :
    DE X ρ (.Call (.Name "abs" p) [e] [] pos) (.d (.int (if i < 0 then -i else i))) ρ1 :=
  de_cB call_abs (fun F Z B H σ Q v k w q => by
    cases w
    exact ⟨i, rfl, q _ B H k (Sub.refl B) (.int _)⟩) PyProof.Rows.boot_abs hm hg h (by decide) (by decide) he hpl
theorem de_intI {i : Int} (hm : X.mg "int" = none) (h : DE X ρ e (.d (.int i)) ρ1) (hg : Gl X "int" := by rfl) (he : starEach [e] X.env = (false, eval e X.env) :: starEach [] X.env := by rfl) (hpl : (backTo pos (starEach [] X.env)).any (·.1) = false := by rfl) :
    DE X ρ (.Call (.Name "int" p) [e] [] pos) (.d (.int i)) ρ1 :=
  de_cT call_int1 (fun F Z B H σ Q v k w q => by
    cases w
    exact .inl ⟨i, rfl, q _ B H k (Sub.refl B) (.int _)⟩) PyProof.Rows.boot_int hm hg h (by decide) (by decide) he hpl
theorem de_intB {i : Bool} (hm : X.mg "int" = none) (h : DE X ρ e (.d (.bool i)) ρ1) (hg : Gl X "int" := by rfl) (he : starEach [e] X.env = (false, eval e X.env) :: starEach [] X.env := by rfl) (hpl : (backTo pos (starEach [] X.env)).any (·.1) = false := by rfl) :
    DE X ρ (.Call (.Name "int" p) [e] [] pos) (.d (.int (if i then 1 else 0))) ρ1 :=
  de_cT call_int1 (fun F Z B H σ Q v k w q => by
    cases w
    exact .inr ⟨i, rfl, q _ B H k (Sub.refl B) (.int _)⟩) PyProof.Rows.boot_int hm hg h (by decide) (by decide) he hpl
/-- max(a, b) -/
theorem de_max2 {i j : Int} (hc : X.calm = true) (hm : X.mg "max" = none) (h : DA X ρ [a, b] [.int i, .int j] ρ1) (hg : Gl X "max" := by rfl) (he : starEach [a, b] X.env = (false, eval a X.env) :: starEach [b] X.env := by rfl)
    (hpl : (backTo pos (starEach [b] X.env)).any (·.1) = false := by rfl) : DE X ρ (.Call (.Name "max" p) [a, b] [] pos) (.d (.int (if j > i then j else i))) ρ1 := fun F Z B H σ Q k q =>
  ⟨_, pe_callB (call_max2 hc) hg hm PyProof.Rows.boot_max pa_s (by decide) (by decide) he hpl, h F Z B H σ _ k fun vs B1 H1 k1 x1 w => by
    cases w with
    | cons w1 w =>
      cases w with
      | cons w2 w =>
        cases w; cases w1; cases w2
        exact ⟨i, j, rfl, q _ B1 H1 k1 x1 (.int _)⟩⟩
end

/-! ### places -/
section
variable {xs : List PyData} {i : Int} {x : PyData}
theorem atI_dp {K : PySem.W.Frag} {B : Hp} {vs : List V} (t : DpAll K B vs xs) (h : atI xs i = some x) : ∃ v, atI vs i = some v ∧ Dp K B v x := by
  unfold atI at h ⊢
  rw [DpAll.length t]
  cases e : ixN xs.length i with
  | none => rw [e] at h; cases h
  | some j =>
    rw [e] at h
    exact DpAll.get' t (by simpa using h)
theorem de_ixL (hq : RL ρ2 r xs) (hx : atI xs i = some x) (ha : DE X ρ a r ρ1) (hb : DE X ρ1 b (.d (.int i)) ρ2) (hs : PlainIx b := by intro _ _; rfl) : DE X ρ (.Subscript a b pos) (.d x) ρ2 := fun F Z B H σ Q k q =>
  ⟨_, pe_ix ix_list pe_s pe_s hs, DE.two ha hb k fun v1 v2 B2 H2 k2 x w1 w2 => by
    obtain ⟨p, vs, e, s, t⟩ := hq.at k2 w1
    obtain ⟨v, h1, h2⟩ := atI_dp t hx
    cases w2
    exact ⟨p, vs, i, v, e, rfl, s, h1, q v B2 H2 k2 x h2⟩⟩
theorem de_ixT (hx : atI xs i = some x) (ha : DE X ρ a (.d (.tuple xs)) ρ1) (hb : DE X ρ1 b (.d (.int i)) ρ2) (hs : PlainIx b := by intro _ _; rfl) : DE X ρ (.Subscript a b pos) (.d x) ρ2 := fun F Z B H σ Q k q =>
  ⟨_, pe_ix ix_tup pe_s pe_s hs, DE.two ha hb k fun v1 v2 B2 H2 k2 x w1 w2 => by
    obtain ⟨p, vs, e, s, _, t⟩ := tup_at k2 w1
    obtain ⟨v, h1, h2⟩ := atI_dp t hx
    cases w2
    exact ⟨p, vs, i, v, e, rfl, s, h1, q v B2 H2 k2 x h2⟩⟩
end

/-! ### slices -/
def cutD {α : Type} (xs : List α) (lo hi : Option Int) : List α := (xs.drop (HT.sIx xs.length 0 lo)).take (HT.sIx xs.length xs.length hi - HT.sIx xs.length 0 lo)
theorem cutD_to {α : Type} (xs : List α) (k : Nat) : cutD xs none (some (k : Int)) = xs.take k := by
  unfold cutD
  rw [HT.sIx_none, HT.sIx_nat, List.drop_zero, Nat.sub_zero]
  rw [List.take_eq_take_iff]; omega
theorem cutD_from {α : Type} (xs : List α) (k : Nat) : cutD xs (some (k : Int)) none = xs.drop k := by
  unfold cutD
  rw [HT.sIx_none, HT.sIx_nat]
  by_cases h : k ≤ xs.length
  · rw [Nat.min_eq_left h, List.take_of_length_le (by rw [List.length_drop]; omega)]
  · rw [Nat.min_eq_right (by omega), List.drop_of_length_le (Nat.le_refl _), List.drop_of_length_le (by omega)]; simp
theorem cutV_dp {K : PySem.W.Frag} {B : Hp} {vs : List V} {xs : List PyData} {lo hi : Option Int} (t : DpAll K B vs xs) : DpAll K B (cutV vs lo hi) (cutD xs lo hi) := by
  unfold cutV cutD
  rw [DpAll.length t]
  exact G.DpAll.take _ (G.DpAll.drop _ t)
def DO (X : Cx) (ρ : Env') (e : Option Expr) (o : Option Int) (ρ' : Env') : Prop := ∀ F Z B H σ Q, Ok X.K F Z B H σ ρ → (∀ B' H', Ok X.K F Z B' H' σ ρ' → Sub B B' → Q o H') → ∃ t, PO X e t ∧ t σ H Q
theorem do_none : DO X ρ none none ρ := fun F Z B H σ Q k q => ⟨_, po_none, q B H k (Sub.refl B)⟩
theorem do_some {i : Int} (h : DE X ρ e (.d (.int i)) ρ1) : DO X ρ (some e) (some i) ρ1 := fun F Z B H σ Q k q => ⟨_, po_some pe_s, h F Z B H σ _ k fun v B1 H1 k1 x1 w => by
  cases w
  exact ⟨i, rfl, q B1 H1 k1 x1⟩⟩
def sO (X : Cx) (e : Option Expr) : TO := fun σ H Q => ∃ t, PO X e t ∧ t σ H Q
theorem po_s {e : Option Expr} : PO X e (sO X e) := ⟨fun pins s σ H Q I ⟨_, h, q⟩ => h.run pins s σ H Q I q⟩
section
variable {xs : List PyData} {lo hi : Option Expr} {i j : Option Int} {p2 : Pos}
theorem de_slT (ha : DE X ρ a (.d (.tuple xs)) ρ1) (h1 : DO X ρ1 lo i ρ2) (h2 : DO X ρ2 hi j ρ3) : DE X ρ (.Subscript a (.Slice lo hi none p2) pos) (.d (.tuple (cutD xs i j))) ρ3 := fun F Z B H σ Q k q =>
  ⟨_, pe_slice sl_tupN pe_s po_s po_s, ha F Z B H σ _ k fun v B1 H1 k1 x1 w => h1 F Z B1 H1 σ _ k1 fun B2 H2 k2 x2 => h2 F Z B2 H2 σ _ k2 fun B3 H3 k3 x3 => by
    obtain ⟨p, vs, e, s, s', t⟩ := tup_at k3 (VR.mono (x2.trans x3) w)
    refine ⟨p, vs, e, s, fun hw => ?_, fun hw => ?_⟩
    · have e2 : cutD xs i j = xs := by
        unfold cutD
        rw [← DpAll.length t, hw.1, hw.2, DpAll.length t]
        simp
      rw [e2] at q
      exact q _ B3 H3 k3 ((x1.trans x2).trans x3) (.tup s'.1 s'.2 t)
    · exact k3.newT (cutV_dp t) fun v B4 H4 k4 x4 w4 => q v B4 H4 k4 (((x1.trans x2).trans x3).trans x4) w4⟩
theorem dl_sl (hq : RL ρ3 r xs) (ha : DE X ρ a r ρ1) (h1 : DO X ρ1 lo i ρ2) (h2 : DO X ρ2 hi j ρ3) : DL X ρ (.Subscript a (.Slice lo hi none p2) pos) (cutD xs i j) ρ3 := fun F Z B H σ Q k q =>
  ⟨_, pe_slice sl_list pe_s po_s po_s, ha F Z B H σ _ k fun v B1 H1 k1 x1 w => h1 F Z B1 H1 σ _ k1 fun B2 H2 k2 x2 => h2 F Z B2 H2 σ _ k2 fun B3 H3 k3 x3 => by
    obtain ⟨p, vs, e, s, t⟩ := hq.at k3 (VR.mono (x2.trans x3) w)
    exact ⟨p, vs, e, s, fun l hl => q l _ B3 _ (k3.loose hl _) ((x1.trans x2).trans x3) (k3.laid hl _) upd_same (cutV_dp t)⟩⟩
theorem dl_rev {kk : Nat} {p1 p3 p4 : Pos} (hq : RL ρ1 r xs) (ha : DE X ρ a r ρ1) : DL X ρ (.Subscript a (.Slice none none (some (.UnaryOp .USub (.Constant (.int 1) kk p1) p3)) p4) pos) xs.reverse ρ1 := fun F Z B H σ Q k q =>
  ⟨_, pe_revL pe_s, ha F Z B H σ _ k fun v B1 H1 k1 x1 w => by
    obtain ⟨p, vs, e, s, t⟩ := hq.at k1 w
    exact ⟨p, vs, e, s, fun l hl => q l _ B1 _ (k1.loose hl _) x1 (k1.laid hl _) upd_same (DpAll.reverse t)⟩⟩
end

/-! ### glued -/
section
variable {xs ys : List PyData}
theorem de_catT (hz : xs.length + ys.length ≤ sizeLine) (ha : DE X ρ a (.d (.tuple xs)) ρ1) (hb : DE X ρ1 b (.d (.tuple ys)) ρ2) : DE X ρ (.BinOp a .Add b pos) (.d (.tuple (xs ++ ys))) ρ2 := fun F Z B H σ Q k q =>
  ⟨_, pe_op op_catN pe_s pe_s, DE.two ha hb k fun v1 v2 B2 H2 k2 x w1 w2 => by
    obtain ⟨p1, vs, e1, s1, s1', t1⟩ := tup_at k2 w1
    obtain ⟨p2, us, e2, s2, s2', t2⟩ := tup_at k2 w2
    have l1 := DpAll.length t1
    have l2 := DpAll.length t2
    refine ⟨p1, p2, vs, us, e1, e2, s1, s2, by rw [l1, l2]; exact hz, fun h => ?_, fun h h' => ?_, fun h h' => ?_⟩
    · have e : xs = [] := List.eq_nil_of_length_eq_zero (by rw [← l1, h]; rfl)
      rw [e] at q
      exact q _ B2 H2 k2 x (.tup s2'.1 s2'.2 t2)
    · have e : ys = [] := List.eq_nil_of_length_eq_zero (by rw [← l2, h']; rfl)
      rw [e, List.append_nil] at q
      exact q _ B2 H2 k2 x (.tup s1'.1 s1'.2 t1)
    · exact k2.newT (G.DpAll.append t1 t2) fun v B3 H3 k3 x3 w3 => q v B3 H3 k3 (x.trans x3) w3⟩
/-- a list of our own, and a new one -/
theorem dl_cat {i : Nat} (hz : xs.length + ys.length ≤ sizeLine) (ha : DE X ρ a (.o i) ρ1) (hb : DL X ρ1 b ys ρ2) (hs : ρ2[i]? = some (.o (.lst xs)) := by rfl) : DL X ρ (.BinOp a .Add b pos) (xs ++ ys) ρ2 := fun F Z B H σ Q k q =>
  ⟨_, pe_op op_cat pe_s pe_s, ha F Z B H σ _ k fun v1 B1 H1 k1 x1 w1 => hb F Z B1 H1 σ _ k1 fun p us B2 H2 k2 x2 n hp t2 => by
    obtain ⟨v', as, h1, h2, _⟩ := k2.ob (gS_some hs)
    have w' : gV σ i = some v1 := w1
    rw [w'] at h1
    cases h1
    cases h2 with
    | lst h t1 =>
      have l1 := DpAll.length t1
      have l2 := DpAll.length t2
      exact ⟨_, p, _, us, rfl, rfl, h, hp, by rw [l1, l2]; exact hz, fun l hl => q l _ B2 _ (k2.loose hl _) (x1.trans x2) (k2.laid hl _) upd_same (G.DpAll.append t1 t2)⟩⟩
end
end
end G

set_option Elab.async false
set_option linter.all false
set_option maxRecDepth 100000
set_option maxHeartbeats 4000000
/- statements, loops, comprehensions, on data -/
namespace G
open PySem L2 PySem.Spec PyProof.Rows

section
variable {X : Cx} {ρ ρ' ρ1 ρ2 ρ3 : Env'} {a b c e : Expr} {es : List Expr} {r r1 r2 r3 : R} {pos : Pos} {st : Stmt} {rest sts : List Stmt} {o : O}

/-! ### blocks -/
theorem db_nil : DB X ρ [] (.nx ρ) := fun F Z B H σ D k q => ⟨_, pss_nil, q B H σ k (Sub.refl B)⟩
theorem db_cons (h : DS X ρ st (.nx ρ1)) (t : DB X ρ1 rest o) : DB X ρ (st :: rest) o := fun F Z B H σ D k q =>
  ⟨_, pss_cons ps_s pb_s, h F Z B H σ { D with nx := sB X rest D } k fun B1 H1 σ1 k1 x1 => t F Z B1 H1 σ1 D k1 (q.sub x1)⟩
theorem db_one (h : DS X ρ st o) : DB X ρ [st] o := fun F Z B H σ D k q => ⟨_, pss_one ps_s, h F Z B H σ D k q⟩
/-- a statement that does not go on -/
theorem db_rt {d : PyData} (h : DS X ρ st (.rt d ρ1)) : DB X ρ (st :: rest) (.rt d ρ1) := fun F Z B H σ D k q => ⟨_, pss_cons ps_s pss_never, h F Z B H σ { D with nx := tNever D } k q⟩
theorem db_bk (h : DS X ρ st (.bk ρ1)) : DB X ρ (st :: rest) (.bk ρ1) := fun F Z B H σ D k q => ⟨_, pss_cons ps_s pss_never, h F Z B H σ { D with nx := tNever D } k q⟩
theorem db_ct (h : DS X ρ st (.ct ρ1)) : DB X ρ (st :: rest) (.ct ρ1) := fun F Z B H σ D k q => ⟨_, pss_cons ps_s pss_never, h F Z B H σ { D with nx := tNever D } k q⟩
/-- forgetting at the end -/
theorem db_weak (h : DB X ρ sts (.nx ρ1)) (w : Wk ρ1 ρ2) : DB X ρ sts (.nx ρ2) := fun F Z B H σ D k q => h F Z B H σ D k fun B' H' σ' k' x => q B' H' σ' (k'.weak w) x

/-! ### simple statements -/
section
variable {i : Nat} {x : Str} {y : PyData} {pos' : Pos}
theorem ds_set (hN : X.N.Nodup) (he : DE X ρ e (.d y) ρ1) (hi : X.N[i]? = some x := by rfl) (hx : Loc X.env.scope x := by first | exact Or.inl rfl | exact Or.inr rfl) (hs : swapsWith e (some (.Name x pos')) pos.line X.env = pure false := by rfl)
    (hf : X.fn x = true ∨ X.env.scope.names.lookup x = some .local := by first | exact .inl rfl | exact .inr rfl) : DS X ρ (.Assign [.Name x pos'] e pos) (.nx (ρ1.set i (.d y))) := fun F Z B H σ D k q =>
  ⟨_, ps_set hN hi hx pe_s hs hf, he F Z B H σ _ k fun v B1 H1 k1 x1 w => q B1 H1 _ (k1.setD w) x1⟩
theorem ds_setL {xs : List PyData} {s0 : Sl} (hN : X.N.Nodup) (he : DL X ρ e xs ρ1) (hr : ρ1[i]? = some s0 := by rfl) (hi : X.N[i]? = some x := by rfl) (hx : Loc X.env.scope x := by first | exact Or.inl rfl | exact Or.inr rfl) (hs : swapsWith e (some (.Name x pos')) pos.line X.env = pure false := by rfl)
    (hf : X.fn x = true ∨ X.env.scope.names.lookup x = some .local := by first | exact .inl rfl | exact .inr rfl) : DS X ρ (.Assign [.Name x pos'] e pos) (.nx (ρ1.set i (.o (.lst xs)))) := fun F Z B H σ D k q =>
  ⟨_, ps_set hN hi hx pe_s hs hf, he F Z B H σ _ k fun p vs B1 H1 k1 x1 n hp w => q B1 H1 _ (k1.take n (List.getElem?_eq_some_iff.mp hr).1 (.lst hp w)) x1⟩
end
theorem ds_drop (he : DE X ρ e r ρ1) (hs : swapsWith e none pos.line X.env = pure false := by rfl) : DS X ρ (.Expr e pos) (.nx ρ1) := fun F Z B H σ D k q =>
  ⟨_, ps_expr pe_s hs, he F Z B H σ _ k fun v B1 H1 k1 x1 w => q B1 H1 σ k1 x1⟩
theorem ds_ret {y : PyData} (he : DE X ρ e (.d y) ρ1) : DS X ρ (.Return (some e) pos) (.rt y ρ1) := fun F Z B H σ D k q =>
  ⟨_, ps_ret pe_s, he F Z B H σ _ k fun v B1 H1 k1 x1 w => q v B1 H1 σ k1 x1 w⟩
theorem ds_retN : DS X ρ (.Return none pos) (.rt .none ρ) := fun F Z B H σ D k q => ⟨_, ps_retN, q .non B H σ k (Sub.refl B) .non⟩
theorem ds_pass : DS X ρ (.Pass pos) (.nx ρ) := fun F Z B H σ D k q => ⟨_, ps_pass, q B H σ k (Sub.refl B)⟩
theorem ds_break : DS X ρ (.Break pos) (.bk ρ) := fun F Z B H σ D k q => ⟨_, ps_break, q B H σ k (Sub.refl B)⟩
theorem ds_cont : DS X ρ (.Continue pos) (.ct ρ) := fun F Z B H σ D k q => ⟨_, ps_continue, q B H σ k (Sub.refl B)⟩
theorem ds_if {x : Bool} {as bs : List Stmt} (h : DT X ρ c x ρ1) (h1 : x = true → DB X ρ1 as o) (h2 : x = false → DB X ρ1 bs o) : DS X ρ (.If c as bs pos) o := fun F Z B H σ D k q =>
  ⟨_, ps_if pt_s pb_s pb_s, h F Z B H σ _ k fun B1 H1 k1 x1 => by
    cases x with
    | true =>
      rw [if_pos rfl]
      exact h1 rfl F Z B1 H1 σ D k1 (q.sub x1)
    | false =>
      rw [if_neg (by decide)]
      exact h2 rfl F Z B1 H1 σ D k1 (q.sub x1)⟩
/-- an if whose first branch ends the block -/
theorem db_if {x : Bool} {as : List Stmt} (h : DT X ρ c x ρ1) (h1 : x = true → DB X ρ1 as o) (h2 : x = false → DB X ρ1 rest o) (hn : x = true → ∀ ρ, o ≠ .nx ρ) : DB X ρ (.If c as [] pos :: rest) o := by
  cases x with
  | true =>
    have q : DS X ρ (.If c as [] pos) o := ds_if h h1 fun z => nomatch z
    cases o with
    | nx ρ' => exact absurd rfl (hn rfl ρ')
    | rt d ρ' => exact db_rt q
    | bk ρ' => exact db_bk q
    | ct ρ' => exact db_ct q
  | false => exact db_cons (ds_if h (fun z => nomatch z) fun _ => db_nil) (h2 rfl)

/-! ### targets -/
/-- storing x at the target; js: the slots that it writes -/
def DG (X : Cx) (ρ : Env') (tg : Expr) (x : PyData) (js : List Nat) (ρ' : Env') : Prop := ∀ F Z B H σ v Q, Ok X.K F Z B H σ ρ → Dp X.K B v x →
  (∀ B' H' σ', Ok X.K F Z B' H' σ' ρ' → Sub B B' → (∀ vs : List Nat, (∀ j ∈ js, j ∈ vs) → wipe σ' vs = wipe σ vs) → Q σ' H') → sG X tg v σ H Q
def DGs (X : Cx) (ρ : Env') (tgs : List Expr) (xs : List PyData) (js : List Nat) (ρ' : Env') : Prop := ∀ F Z B H σ vs Q, Ok X.K F Z B H σ ρ → DpAll X.K B vs xs →
  (∀ B' H' σ', Ok X.K F Z B' H' σ' ρ' → Sub B B' → (∀ vs : List Nat, (∀ j ∈ js, j ∈ vs) → wipe σ' vs = wipe σ vs) → Q σ' H') → sGs X tgs vs σ H Q
theorem wipe_in {σ : L2.St} {i : Nat} : ∀ {vs : List Nat}, i ∈ vs → i < σ.length → (wipe σ vs)[i]? = some none
  | v :: vs, h, hl => by
    unfold wipe
    by_cases e : v = i
    · subst e
      rw [List.getElem?_set_self (by rw [wipe_length]; exact hl)]
    · rw [List.getElem?_set_ne e]
      exact wipe_in ((List.mem_cons.mp h).resolve_left fun z => e z.symm) hl
theorem wipe_set {σ : L2.St} {i : Nat} {a : Option V} {vs : List Nat} (h : i ∈ vs) : wipe (σ.set i a) vs = wipe σ vs := by
  apply List.ext_getElem?
  intro j
  by_cases hj : j ∈ vs
  · by_cases hl : j < σ.length
    · rw [wipe_in hj (by simpa using hl), wipe_in hj hl]
    · rw [List.getElem?_eq_none (by rw [wipe_length]; simp; omega), List.getElem?_eq_none (by rw [wipe_length]; omega)]
  · rw [wipe_out hj, wipe_out hj, List.getElem?_set_ne fun e => hj (by rw [← e]; exact h)]
theorem dg_name {i : Nat} {x : Str} {y : PyData} (hN : X.N.Nodup) (hi : X.N[i]? = some x := by rfl) (hx : Loc X.env.scope x := by first | exact Or.inl rfl | exact Or.inr rfl)
    (hf : X.fn x = true ∨ X.env.scope.names.lookup x = some .local := by first | exact .inl rfl | exact .inr rfl) : DG X ρ (.Name x pos) y [i] (ρ.set i (.d y)) := fun F Z B H σ v Q k w q =>
  ⟨_, pg_name hN hi hx hf, q B H _ (k.setD w) (Sub.refl B) fun vs hv => wipe_set (hv i List.mem_cons_self)⟩
theorem dgs_nil : DGs X ρ [] [] [] ρ := fun F Z B H σ vs Q k w q => by
  cases w
  exact ⟨_, pgs_nil, rfl, q B H σ k (Sub.refl B) fun _ _ => rfl⟩
theorem dgs_cons {x : PyData} {xs : List PyData} {js ks : List Nat} (h : DG X ρ e x js ρ1) (t : DGs X ρ1 es xs ks ρ2) (hs : (assignEach (e :: es) X.env).map (·.2) = assign e X.env :: (assignEach es X.env).map (·.2) := by rfl) : DGs X ρ (e :: es) (x :: xs) (js ++ ks) ρ2 := fun F Z B H σ vs Q k w q => by
  cases w with
  | cons w1 w2 =>
    exact ⟨_, pgs_cons pg_s pgs_s hs, _, _, rfl, h F Z B H σ _ _ k w1 fun B1 H1 σ1 k1 x1 z1 => t F Z B1 H1 σ1 _ _ k1 (dpAll_mono x1 w2) fun B2 H2 σ2 k2 x2 z2 => q B2 H2 σ2 k2 (x1.trans x2) fun us hu =>
      (z2 us fun j hj => hu j (List.mem_append_right _ hj)).trans (z1 us fun j hj => hu j (List.mem_append_left _ hj))⟩
theorem dg_tup {n : Nat} {kk : Nat} {xs : List PyData} {js : List Nat} (hc : X.calm = true) (h : DGs X ρ es xs js ρ1) (hl : xs.length = n := by rfl) (hn : (assignEach es X.env).length = n := by rfl) (hst : (assignEach es X.env).findIdx? (·.1) = none := by rfl) :
    DG X ρ (.Tuple es kk pos) (.tuple xs) js ρ1 := fun F Z B H σ v Q k w q => by
  obtain ⟨p, vs, e, s, _, t⟩ := tup_at k (show VR X.K B σ v (.d (.tuple xs)) from w)
  exact ⟨_, pg_tup hc pgs_s hn hst, p, vs, e, s, by rw [DpAll.length t]; exact hl, h F Z B H σ vs Q k t q⟩

/-! ### what is walked -/
def DI (X : Cx) (ρ : Env') (tg iter : Expr) (xs : List PyData) (ρ' : Env') : Prop := ∀ F Z B H σ Q, Ok X.K F Z B H σ ρ →
  (∀ J n G Y B' H', Ok X.K F Z B' H' σ ρ' → Sub B B' → n = xs.length → Walk J n G Y → (∀ B2 H2, Sub B' B2 → Sub B2 H2 → G H2) →
    (∀ F2 Z2 B2 H2 σ2 ρ2 i v H3, Ok X.K F2 Z2 B2 H2 σ2 ρ2 → Sub B' B2 → i < n → Y i H2 v H3 → ∃ B3 x, xs[i]? = some x ∧ Ok X.K F2 Z2 B3 H3 σ2 ρ2 ∧ Sub B2 B3 ∧ Dp X.K B3 v x) → Q J H') →
  ∃ t, PI X tg iter t ∧ t σ H Q
def sI (X : Cx) (tg iter : Expr) : TI := fun σ H Q => ∃ t, PI X tg iter t ∧ t σ H Q
theorem pi_s {tg iter : Expr} : PI X tg iter (sI X tg iter) := ⟨fun pins s σ H R I ⟨_, h, q⟩ => h.run pins s σ H R I q⟩
section
variable {tg iter : Expr} {xs : List PyData}
theorem di_list (h : DE X ρ iter (.d (.list xs)) ρ1) : DI X ρ tg iter xs ρ1 := fun F Z B H σ Q k q =>
  ⟨_, pi_list pe_s, h F Z B H σ _ k fun v B1 H1 k1 x1 w => by
    cases w with
    | @lst a vs _ s t =>
      refine ⟨a, rfl, ⟨vs, s.imp k1.exB.rd id⟩, q _ _ _ _ B1 H1 k1 x1 (DpAll.length t) walk_list (fun B2 H2 y1 y2 => s.imp (y1.trans y2).rd id) ?_⟩
      rintro F2 Z2 B2 H2 σ2 ρ2 i v H3 k2 y2 hi ⟨rfl, hv⟩
      obtain ⟨x, h1, h2⟩ := DpAll.get t hv
      exact ⟨B2, x, h1, k2, Sub.refl B2, dp_mono y2 h2⟩⟩
theorem di_tup (h : DE X ρ iter (.d (.tuple xs)) ρ1) : DI X ρ tg iter xs ρ1 := fun F Z B H σ Q k q =>
  ⟨_, pi_tup pe_s, h F Z B H σ _ k fun v B1 H1 k1 x1 w => by
    cases w with
    | @tup a vs _ s _ t =>
      refine ⟨a, rfl, ⟨vs, s.imp k1.exB.rd id⟩, q _ _ _ _ B1 H1 k1 x1 (DpAll.length t) walk_tup (fun B2 H2 y1 y2 => s.imp (y1.trans y2).rd id) ?_⟩
      rintro F2 Z2 B2 H2 σ2 ρ2 i v H3 k2 y2 hi ⟨rfl, hv⟩
      obtain ⟨x, h1, h2⟩ := DpAll.get t hv
      exact ⟨B2, x, h1, k2, Sub.refl B2, dp_mono y2 h2⟩⟩
def rangeD (lo : Int) (n : Nat) : List PyData := (List.range n).map fun (i : Nat) => PyData.int (lo + (i : Int))
theorem rangeD_at {lo : Int} {n i : Nat} (h : i < n) : (rangeD lo n)[i]? = some (.int (lo + (i : Int))) := by
  unfold rangeD
  rw [List.getElem?_map, List.getElem?_range h]; rfl
theorem rangeD_len {lo : Int} {n : Nat} : (rangeD lo n).length = n := by unfold rangeD; simp
theorem di_range {n : Int} {p : Pos} (hm : X.mg "range" = none) (hn : n < 2 ^ 62 ∧ -(2 ^ 62) ≤ n) (h : DA X ρ [e] [.int n] ρ1) (hg : Gl X "range" := by rfl) (hs : starEach [e] X.env = [(false, eval e X.env)] := by rfl) :
    DI X ρ tg (.Call (.Name "range" p) [e] [] pos) (rangeD 0 n.toNat) ρ1 := fun F Z B H σ Q k q =>
  ⟨_, pi_range1 hg hm pa_s hs, h F Z B H σ _ k fun vs B1 H1 k1 x1 w => by
    cases w with
    | cons w w' =>
      cases w; cases w'
      refine ⟨n, rfl, hn.2, hn.1, q _ _ _ _ B1 H1 k1 x1 rangeD_len.symm walk_range (fun _ _ _ _ => trivial) ?_⟩
      rintro F2 Z2 B2 H2 σ2 ρ2 i v H3 k2 y2 hi ⟨rfl, rfl⟩
      exact ⟨B2, _, rangeD_at hi, k2, Sub.refl B2, .int _⟩⟩
theorem di_range2 {m n : Int} {p : Pos} (hm : X.mg "range" = none) (hn : -(2 ^ 62) ≤ m ∧ m < 2 ^ 62 ∧ -(2 ^ 62) ≤ n ∧ n < 2 ^ 62) (h : DA X ρ [a, b] [.int m, .int n] ρ1) (hg : Gl X "range" := by rfl) (hs : starEach [a, b] X.env = [(false, eval a X.env), (false, eval b X.env)] := by rfl)
    (hs2 : starEach [b] X.env = [(false, eval b X.env)] := by rfl) : DI X ρ tg (.Call (.Name "range" p) [a, b] [] pos) (rangeD m (n - m).toNat) ρ1 := fun F Z B H σ Q k q =>
  ⟨_, pi_range2 hg hm pa_s hs hs2, h F Z B H σ _ k fun vs B1 H1 k1 x1 w => by
    cases w with
    | cons w w' =>
      cases w
      cases w' with
      | cons w w' =>
        cases w; cases w'
        refine ⟨m, n, rfl, hn, q _ _ _ _ B1 H1 k1 x1 rangeD_len.symm walk_range (fun _ _ _ _ => trivial) ?_⟩
        rintro F2 Z2 B2 H2 σ2 ρ2 i v H3 k2 y2 hi ⟨rfl, rfl⟩
        exact ⟨B2, _, rangeD_at hi, k2, Sub.refl B2, .int _⟩⟩
end

/-! ### for -/
section
variable {tg iter : Expr} {xs : List PyData} {body : List Stmt}
/-- the first m turns go on; what is then, q says: all are taken, or one more ends the loop otherwise -/
theorem for_goes (hp : PassesOwn (model X.prog X.w) X.A X.env X.xe) (hc : X.calm = true) (hi : DI X ρ tg iter xs ρ1) (ρs : Nat → Env') (h0 : Wk ρ1 (ρs 0))
    (turn : ∀ i x, xs[i]? = some x → ∃ ρt js ρe, DG X (ρs i) tg x js ρt ∧ (DB X ρt body (.nx ρe) ∨ DB X ρt body (.ct ρe)) ∧ Wk ρe (ρs (i + 1)))
    (hs : ∀ x, foldedSetIterable iter X.env x = pure x := by intro _; rfl) : DS X ρ (.For tg iter body [] pos) (.nx (ρs xs.length)) := fun F Z B H σ D k q =>
  ⟨_, ps_for hp hc pi_s pg_s pb_s hs, hi F Z B H σ _ k fun J n G Y B1 H1 k1 x1 hn W hG hY => by
    subst hn
    refine for_it W (fun i σ' H' => ∃ B', Ok X.K F Z B' H' σ' (ρs i) ∧ Sub B1 B') ⟨B1, k1.weak h0, Sub.refl B1⟩ (fun i σ' H' _ ⟨B', k', y⟩ => hG B' H' y k'.exB) ?_ fun σ' H' ⟨B', k', y⟩ => q B' H' σ' k' (x1.trans y)
    rintro i v σ' H' H2 hi' ⟨B', k', y⟩ hv
    obtain ⟨B2, x, hx, k2, y2, w⟩ := hY F Z B' H' σ' (ρs i) i v H2 k' y hi' hv
    obtain ⟨ρt, js, ρe, t1, t2, t3⟩ := turn i x hx
    refine t1 F Z B2 H2 σ' v _ k2 w fun B3 H3 σ3 k3 y3 _ => ?_
    have fin : ∀ B' H' σ', Ok X.K F Z B' H' σ' ρe → Sub B3 B' → ∃ B'', Ok X.K F Z B'' H' σ' (ρs (i + 1)) ∧ Sub B1 B'' := fun B4 H4 σ4 k4 y4 => ⟨B4, k4.weak t3, ((y.trans y2).trans y3).trans y4⟩
    rcases t2 with t2 | t2
    · exact t2 F Z B3 H3 σ3 _ k3 fin
    · exact t2 F Z B3 H3 σ3 _ k3 fin⟩
/-- m turns go on, the next one leaves -/
theorem for_leaves (hp : PassesOwn (model X.prog X.w) X.A X.env X.xe) (hc : X.calm = true) (hi : DI X ρ tg iter xs ρ1) (m : Nat) (hm : m < xs.length) (ρs : Nat → Env') (h0 : Wk ρ1 (ρs 0))
    (turn : ∀ i x, i < m → xs[i]? = some x → ∃ ρt js ρe, DG X (ρs i) tg x js ρt ∧ (DB X ρt body (.nx ρe) ∨ DB X ρt body (.ct ρe)) ∧ Wk ρe (ρs (i + 1)))
    (last : ∀ x, xs[m]? = some x → ∃ ρt js, DG X (ρs m) tg x js ρt ∧ ((∃ d ρe, DB X ρt body (.rt d ρe) ∧ o = .rt d ρe) ∨ ∃ ρe, DB X ρt body (.bk ρe) ∧ o = .nx ρe))
    (hs : ∀ x, foldedSetIterable iter X.env x = pure x := by intro _; rfl) : DS X ρ (.For tg iter body [] pos) o := fun F Z B H σ D k q =>
  ⟨_, ps_for hp hc pi_s pg_s pb_s hs, hi F Z B H σ _ k fun J n G Y B1 H1 k1 x1 hn W hG hY => by
    subst hn
    refine for_it W (fun i σ' H' => i ≤ m ∧ ∃ B', Ok X.K F Z B' H' σ' (ρs i) ∧ Sub B1 B') ⟨Nat.zero_le _, B1, k1.weak h0, Sub.refl B1⟩ (fun i σ' H' _ ⟨_, B', k', y⟩ => hG B' H' y k'.exB) ?_ fun σ' H' ⟨z, _⟩ => absurd hm (by omega)
    rintro i v σ' H' H2 hi' ⟨him, B', k', y⟩ hv
    obtain ⟨B2, x, hx, k2, y2, w⟩ := hY F Z B' H' σ' (ρs i) i v H2 k' y hi' hv
    by_cases e : i = m
    · subst e
      obtain ⟨ρt, js, t1, t2⟩ := last x hx
      refine t1 F Z B2 H2 σ' v _ k2 w fun B3 H3 σ3 k3 y3 _ => ?_
      have y13 := x1.trans ((y.trans y2).trans y3)
      rcases t2 with ⟨d, ρe, t2, rfl⟩ | ⟨ρe, t2, rfl⟩
      · exact t2 F Z B3 H3 σ3 _ k3 fun v B4 H4 σ4 k4 y4 w4 => q v B4 H4 σ4 k4 (y13.trans y4) w4
      · exact t2 F Z B3 H3 σ3 _ k3 fun B4 H4 σ4 k4 y4 => q B4 H4 σ4 k4 (y13.trans y4)
    · obtain ⟨ρt, js, ρe, t1, t2, t3⟩ := turn i x (by omega) hx
      refine t1 F Z B2 H2 σ' v _ k2 w fun B3 H3 σ3 k3 y3 _ => ?_
      have fin : ∀ B' H' σ', Ok X.K F Z B' H' σ' ρe → Sub B3 B' → i + 1 ≤ m ∧ ∃ B'', Ok X.K F Z B'' H' σ' (ρs (i + 1)) ∧ Sub B1 B'' := fun B4 H4 σ4 k4 y4 => ⟨by omega, B4, k4.weak t3, ((y.trans y2).trans y3).trans y4⟩
      rcases t2 with t2 | t2
      · exact t2 F Z B3 H3 σ3 _ k3 fin
      · exact t2 F Z B3 H3 σ3 _ k3 fin⟩
/-- while: n turns go on, then the test is false -/
theorem while_goes (hp : PassesOwn (model X.prog X.w) X.A X.env X.xe) (n : Nat) (ρs : Nat → Env') (h0 : Wk ρ (ρs 0))
    (turn : ∀ i, i < n → ∃ ρt ρe, DT X (ρs i) c true ρt ∧ (DB X ρt body (.nx ρe) ∨ DB X ρt body (.ct ρe)) ∧ Wk ρe (ρs (i + 1))) (last : DT X (ρs n) c false ρ1) : DS X ρ (.While c body [] pos) (.nx ρ1) := fun F Z B H σ D k q =>
  ⟨_, ps_while hp pt_s pb_s, fun m σ' H' => ∃ i B', m + i = n ∧ Ok X.K F Z B' H' σ' (ρs i) ∧ Sub B B', ⟨n, 0, B, rfl, k.weak h0, Sub.refl B⟩, by
    rintro m σ' H' ⟨i, B', e, k', y⟩
    by_cases hin : i < n
    · obtain ⟨ρt, ρe, t1, t2, t3⟩ := turn i hin
      refine t1 F Z B' H' σ' _ k' fun B2 H2 k2 y2 => ?_
      rw [if_pos rfl]
      refine ⟨fun σ4 H4 => ∃ B4, Ok X.K F Z B4 H4 σ4 (ρs (i + 1)) ∧ Sub B B4, fun σ4 H4 ⟨B4, k4, y4⟩ => ⟨n - (i + 1), by omega, i + 1, B4, by omega, k4, y4⟩, ?_⟩
      rcases t2 with t2 | t2
      · exact t2 F Z B2 H2 σ' _ k2 fun B4 H4 σ4 k4 y4 => ⟨B4, k4.weak t3, (y.trans y2).trans y4⟩
      · exact t2 F Z B2 H2 σ' _ k2 fun B4 H4 σ4 k4 y4 => ⟨B4, k4.weak t3, (y.trans y2).trans y4⟩
    · have e2 : i = n := by omega
      subst e2
      refine last F Z B' H' σ' _ k' fun B2 H2 k2 y2 => ?_
      rw [if_neg (by decide)]
      exact q B2 H2 σ' k2 (y.trans y2)⟩
end
end
end G

set_option Elab.async false
set_option linter.all false
set_option maxRecDepth 100000
set_option maxHeartbeats 4000000
/- comprehensions, calls of defs, contracts of defs, on data -/
namespace G
open PySem L2 PySem.Spec PyProof.Rows

section
variable {K : PySem.W.Frag} {F : Hp} {Z : Addr → Prop} {B B' H H' : Hp} {σ σ' : L2.St} {ρ ρ' ρ1 : Env'} {p a : Addr} {o o' : HO}
theorem Ok.setN (k : Ok K F Z B H σ ρ) {i : Nat} {a : Option V} : Ok K F Z B H (σ.set i a) (ρ.set i .un) := by
  refine ⟨k.exF, k.exB, k.z, by simp [k.len], ?_⟩
  obtain ⟨own, h1, h2, h3⟩ := k.own
  refine ⟨fun j => if j = i ∧ i < ρ.length then [] else own j, fun j a ha => ?_, fun j m a ha hb => ?_, fun j => ?_⟩
  · dsimp only at ha
    split at ha
    · cases ha
    · exact h1 j a ha
  · dsimp only at ha hb
    split at ha
    · cases ha
    · split at hb
      · cases hb
      · exact h2 j m a ha hb
  · rw [gS_set, gV_set, k.len]
    dsimp only
    by_cases e : j = i ∧ i < ρ.length
    · rw [if_pos e, if_pos e, if_pos e]; exact .un
    · rw [if_neg e, if_neg e, if_neg e]; exact h3 j
def wipeE (ρ : Env') : List Nat → Env'
  | [] => ρ
  | v :: vs => (wipeE ρ vs).set v .un
theorem wipeE_len : ∀ vs : List Nat, (wipeE ρ vs).length = ρ.length
  | [] => rfl
  | v :: vs => by unfold wipeE; rw [List.length_set, wipeE_len vs]
theorem Ok.wipe (k : Ok K F Z B H σ ρ) : ∀ vs : List Nat, Ok K F Z B H (L2.wipe σ vs) (wipeE ρ vs)
  | [] => k
  | v :: vs => by
    unfold L2.wipe wipeE
    exact (Ok.wipe k vs).setN
/-- what is behind a block whose own names stand at vs -/
def Mrg (ρ1 ρn : Env') (vs : List Nat) (ρ' : Env') : Prop := ρ'.length = ρ1.length ∧ ∀ j, (j ∈ vs → gS ρ' j = .un ∨ ∃ x, gS ρ' j = .d x ∧ gS ρ1 j = .d x) ∧ (j ∉ vs → gS ρ' j = .un ∨ gS ρ' j = gS ρn j)
theorem mrg_un {ρn : Env'} {vs : List Nat} (hl : ρn.length = ρ1.length) (h : ∀ j ∈ vs, gS ρn j = .un) : Mrg ρ1 ρn vs ρn := ⟨hl, fun j => ⟨fun m => .inl (h j m), fun _ => .inr rfl⟩⟩
theorem gV_wipe {vs : List Nat} {j : Nat} (h : j ∉ vs) : gV (L2.wipe σ vs) j = gV σ j := by unfold gV; rw [wipe_out h]
theorem Ok.merge {F1 : Hp} {Z1 : Addr → Prop} {ρn : Env'} {vs : List Nat} (k1 : Ok K F1 Z1 B H σ ρ1) (k : Ok K F Z B' H' (L2.wipe σ vs) ρn) (x : Sub B B') (m : Mrg ρ1 ρn vs ρ') : Ok K F Z B' H' σ ρ' := by
  refine ⟨k.exF, k.exB, k.z, k1.len.trans m.1.symm, ?_⟩
  obtain ⟨own, h1, h2, h3⟩ := k.own
  obtain ⟨own1, _, _, h31⟩ := k1.own
  refine ⟨fun j => ifO (gS ρ' j) (own j), fun j a ha => h1 j a (ifO_sub ha), fun j i a ha hb => h2 j i a (ifO_sub ha) (ifO_sub hb), fun j => ?_⟩
  dsimp only
  by_cases hj : j ∈ vs
  · rcases (m.2 j).1 hj with e | ⟨y, e1, e2⟩
    · rw [e]; exact .un
    · rw [e1]
      obtain ⟨v, g1, g2⟩ := k1.at e2
      rw [g1]
      exact .d (dp_mono x g2)
  · rcases (m.2 j).2 hj with e | e
    · rw [e]; exact .un
    · have q := h3 j
      rw [gV_wipe hj] at q
      rw [e]
      generalize gV σ j = v at q ⊢
      generalize gS ρn j = s at q ⊢
      generalize own j = as at q ⊢
      cases q with
      | un => exact .un
      | d q => exact .d q
      | o q => exact .o q
/-- a thing of nobody is held fast -/
theorem Ok.lock (k : Ok K F Z B H σ ρ) (n : New K F Z B H σ ρ p) (h : H p = some o) : Ok K (upd F p o) (fun a => Z a ∨ a = p) B H σ ρ := by
  obtain ⟨own, h1, h2, h3⟩ := k.own
  refine ⟨fun a u e => ?_, k.exB, fun a z => ?_, k.len, own, fun i a ha => ?_, h2, h3⟩
  · by_cases ea : a = p
    · subst ea; rw [upd_same] at e; rw [h]; exact e
    · rw [upd_ne ea] at e; exact k.exF a u e
  · rcases z with z | rfl
    · exact k.z a z
    · exact ⟨n.b, o, h⟩
  · have ea : a ≠ p := fun e => n.not h3 i (e ▸ ha)
    obtain ⟨q1, q2, q3⟩ := h1 i a ha
    rw [upd_ne ea]
    exact ⟨q1, q2, fun z => z.elim q3 ea⟩
theorem Ok.unlock (k : Ok K (upd F p o) (fun a => Z a ∨ a = p) B H σ ρ) (hf : F p = none) (hz : ¬ Z p) : Ok K F Z B H σ ρ ∧ New K F Z B H σ ρ p ∧ H p = some o := by
  obtain ⟨own, h1, h2, h3⟩ := k.own
  have hp : H p = some o := k.exF p o upd_same
  refine ⟨⟨fun a u e => ?_, k.exB, fun a z => k.z a (.inl z), k.len, own, fun i a ha => ?_, h2, h3⟩, ⟨hf, (k.z p (.inr rfl)).1, hz, fun j b v as g1 g2 g3 m => ?_⟩, hp⟩
  · refine k.exF a u ?_
    rw [upd_ne (ne_of_none e hf)]; exact e
  · obtain ⟨q1, q2, q3⟩ := h1 i a ha
    by_cases ea : a = p
    · subst ea; rw [upd_same] at q1; cases q1
    · rw [upd_ne ea] at q1
      exact ⟨q1, q2, fun z => q3 (.inl z)⟩
  · have q := h3 j
    rw [g1, g2] at q
    generalize ho : own j = os at q
    cases q with
    | o q =>
      have e : os = as := ObAt.uni q g3 fun _ _ => rfl
      have mm : p ∈ own j := by rw [ho, e]; exact m
      obtain ⟨q1, _⟩ := h1 j p mm
      rw [upd_same] at q1; cases q1
/-- a thing of nobody is written -/
theorem Ok.poke (k : Ok K F Z B H σ ρ) (n : New K F Z B H σ ρ p) : Ok K F Z B (upd H p o) σ ρ := by
  obtain ⟨own, h1, h2, h3⟩ := k.own
  refine ⟨fun a u e => ?_, fun a u e => ?_, fun a z => ?_, k.len, own, h1, h2, fun i => (h3 i).mono (Sub.refl B) fun a ha => ?_⟩
  · rw [upd_ne (ne_of_none e n.f)]; exact k.exF a u e
  · rw [upd_ne (ne_of_none e n.b)]; exact k.exB a u e
  · rw [upd_ne fun e => n.z (by rw [← e]; exact z)]; exact k.z a z
  · rw [upd_ne fun e => n.not h3 i (by rw [← e]; exact ha)]
theorem New.poke (k : Ok K F Z B H σ ρ) (n : New K F Z B H σ ρ p) : New K F Z B (upd H p o) σ ρ p := by
  refine ⟨n.f, n.b, n.z, fun j b v as g1 g2 g3 m => ?_⟩
  obtain ⟨v', as', f1, f2, f3⟩ := k.ob g1
  rw [g2] at f1
  cases f1
  have np : p ∉ as' := n.o j b v as' g1 g2 f2
  have e : as = as' := ObAt.uni g3 f2 fun a ha => by rw [upd_ne fun e => np (by rw [← e]; exact ha)]
  rw [e] at m
  exact np m
end

section
variable {X : Cx} {ρ ρ' ρ1 ρ2 ρ3 : Env'} {a b c e elt tg iter : Expr} {es ifs : List Expr} {r r1 r2 r3 : R} {pos : Pos} {st : Stmt} {rest sts : List Stmt} {o : O} {xs : List PyData}
def DTs (X : Cx) (ρ : Env') (ifs : List Expr) (b : Bool) (ρ' : Env') : Prop := ∀ F Z B H σ Q, Ok X.K F Z B H σ ρ → (∀ B' H', Ok X.K F Z B' H' σ ρ' → Sub B B' → Q b H') → ∃ t, PTs X ifs t ∧ t σ H Q
def sTs (X : Cx) (ifs : List Expr) : TT := fun σ H Q => ∃ t, PTs X ifs t ∧ t σ H Q
theorem pts_s {ifs : List Expr} : PTs X ifs (sTs X ifs) := ⟨fun pins s σ H Q I ⟨_, h, q⟩ => h.run pins s σ H Q I q⟩
theorem dts_nil : DTs X ρ [] true ρ := fun F Z B H σ Q k q => ⟨_, pts_nil, q B H k (Sub.refl B)⟩
theorem dts_one {x : Bool} (h : DT X ρ c x ρ1) : DTs X ρ [c] x ρ1 := fun F Z B H σ Q k q => ⟨_, pts_one pt_s, h F Z B H σ Q k q⟩

/-- the blocks in which a comprehension's parts run -/
abbrev Blk (X : Cx) (scope : Scope) (P : Cx → Prop) : Prop := ∀ (s : Shared) (H : Hp) (C : Addr) (cl : List (Str × Addr)) (fp : List Addr), P (X.blk s H scope (compEnvC scope cl C X.env) fp)
def bG (X : Cx) (scope : Scope) (tg : Expr) : TG := fun v σ H Q => Blk X scope fun Y => sG Y tg v σ H Q
def bT (X : Cx) (scope : Scope) (ifs : List Expr) : TT := fun σ H Q => Blk X scope fun Y => sTs Y ifs σ H Q
def bE (X : Cx) (scope : Scope) (e : Expr) : TE := fun σ H Q => Blk X scope fun Y => sE Y e σ H Q
theorem pg_b {scope : Scope} : Blk X scope fun Y => PG Y tg (bG X scope tg) := fun s H C cl fp => ⟨fun pins s' σ H' v u Q I r q => pg_s.run pins s' σ H' v u Q I r (q s H C cl fp)⟩
theorem pts_b {scope : Scope} : Blk X scope fun Y => PTs Y ifs (bT X scope ifs) := fun s H C cl fp => ⟨fun pins s' σ H' Q I q => pts_s.run pins s' σ H' Q I (q s H C cl fp)⟩
theorem pe_b {scope : Scope} : Blk X scope fun Y => PE Y e (bE X scope e) := fun s H C cl fp => ⟨fun pins s' σ H' Q I q => pe_s.run pins s' σ H' Q I (q s H C cl fp)⟩

/-- one turn of a comprehension: x taken, y put in (or nothing) -/
def LcT (X : Cx) (scope : Scope) (vs : List Nat) (tg : Expr) (ifs : List Expr) (elt : Expr) (x : PyData) (ρ : Env') (y : Option PyData) (ρ' : Env') : Prop :=
  ∃ ρt js b ρa, (∀ j ∈ js, j ∈ vs) ∧ (Blk X scope fun Y => DG Y ρ tg x js ρt) ∧ (Blk X scope fun Y => DTs Y ρt ifs b ρa) ∧
    (b = true → ∃ z ρe, y = some z ∧ (Blk X scope fun Y => DE Y ρa elt (.d z) ρe) ∧ Wk ρe ρ') ∧ (b = false → y = none ∧ Wk ρa ρ')
theorem wipe_wipe {σ σ3 : L2.St} {vs : List Nat} (e : wipe σ3 vs = wipe (wipe σ vs) vs) : wipe σ3 vs = wipe σ vs := by
  rw [e]
  apply List.ext_getElem?
  intro j
  by_cases hj : j ∈ vs
  · by_cases hl : j < σ.length
    · rw [wipe_in hj (by rw [wipe_length]; exact hl), wipe_in hj hl]
    · rw [List.getElem?_eq_none (by rw [wipe_length, wipe_length]; omega), List.getElem?_eq_none (by rw [wipe_length]; omega)]
  · rw [wipe_out hj]
theorem fm_succ {α : Type} (ys : Nat → Option α) (i : Nat) : (List.range (i + 1)).filterMap ys = (List.range i).filterMap ys ++ (ys i).toList := by
  rw [List.range_succ, List.filterMap_append]
  cases h : ys i <;> simp [h]
theorem lc_go {scope : Scope} {vs : List Nat} (hi : DI X ρ tg iter xs ρ1) (ρs : Nat → Env') (ys : Nat → Option PyData) (h0 : Wk (wipeE ρ1 vs) (ρs 0)) (hu : ∀ i, Wk (wipeE (ρs i) vs) (ρs i))
    (turn : ∀ i x, xs[i]? = some x → LcT X scope vs tg ifs elt x (ρs i) (ys i) (ρs (i + 1))) (hm : Mrg ρ1 (ρs xs.length) vs ρ') (hz : xs.length ≤ sizeLine)
    {F : Hp} {Z : Addr → Prop} {B H : Hp} {σ : L2.St} {Q : VK} (k : Ok X.K F Z B H σ ρ)
    (q : ∀ p us B' H', Ok X.K F Z B' H' σ ρ' → Sub B B' → New X.K F Z B' H' σ ρ' p → H' p = some (.lst us) → DpAll X.K B' us ((List.range xs.length).filterMap ys) → Q (.ref p) H') :
    tLc (sI X tg iter) (bG X scope tg) (bT X scope ifs) (bE X scope elt) vs σ H Q :=
  hi F Z B H σ _ k fun J n G Y B1 H1 k1 x1 hn W hG hY D hD => by
    subst hn
    have kw := (k1.wipe vs).weak h0
    obtain ⟨frD, _, frZ⟩ := k1.fresh hD
    refine lc_it W (fun i H' => ∃ B' acc, Ok X.K F Z B' H' (wipe σ vs) (ρs i) ∧ Sub B1 B' ∧ New X.K F Z B' H' (wipe σ vs) (ρs i) D ∧ H' D = some (.lst acc) ∧ DpAll X.K B' acc ((List.range i).filterMap ys)) ?_ ?_ ?_ ?_
    · exact ⟨B1, [], kw.loose hD _, Sub.refl B1, kw.laid hD _, upd_same, .nil⟩
    · rintro i H' _ ⟨B', acc, k', y, _⟩
      exact hG B' H' y k'.exB
    · rintro i v H' H2 hi' ⟨B', acc, k', y, nw, hD', t⟩ hv
      have hacc : acc.length ≤ i := by
        rw [DpAll.length t]
        exact Nat.le_trans (List.length_filterMap_le _ _) (by simp)
      obtain ⟨B2, x, hx, k2, y2, w⟩ := hY _ _ B' H' (wipe σ vs) (ρs i) i v H2 (k'.lock nw hD') y hi' hv
      obtain ⟨ρt, js, b, ρa, t1, t2, t3, t4, t5⟩ := turn i x hx
      intro s0 H0 C0 cl0 fp0
      refine t2 s0 H0 C0 cl0 fp0 _ _ B2 H2 (wipe σ vs) v _ k2 w fun B3 H3 σ3 k3 y3 wp => ?_
      have e3 : wipe σ3 vs = wipe σ vs := wipe_wipe (wp vs t1)
      have close : ∀ {ρe : Env'} {B5 H5 : Hp}, Ok X.K (upd F D (.lst acc)) (fun a => Z a ∨ a = D) B5 H5 σ3 ρe → Wk ρe (ρs (i + 1)) → Ok X.K (upd F D (.lst acc)) (fun a => Z a ∨ a = D) B5 H5 (wipe σ vs) (ρs (i + 1)) := by
        intro ρe B5 H5 k5 wk
        have q5 := ((k5.weak wk).wipe vs).weak (hu (i + 1))
        rw [e3] at q5
        exact q5
      refine ⟨by rw [e3], ?_⟩
      intro s1 H1' C1 cl1 fp1
      refine t3 s1 H1' C1 cl1 fp1 _ _ B3 H3 σ3 _ k3 fun B4 H4 k4 y4 => ?_
      cases b with
      | true =>
        rw [if_pos rfl]
        obtain ⟨z, ρe, ez, u1, u2⟩ := t4 rfl
        intro s2 H2' C2 cl2 fp2
        refine u1 s2 H2' C2 cl2 fp2 _ _ B4 H4 σ3 _ k4 fun vz B5 H5 k5 y5 w5 => ?_
        obtain ⟨k6, n6, h6⟩ := (close k5 u2).unlock frD frZ
        have yy : Sub B' B5 := ((y2.trans y3).trans y4).trans y5
        refine ⟨acc, h6, by omega, B5, acc ++ [vz], k6.poke n6, y.trans yy, n6.poke k6, upd_same, ?_⟩
        rw [fm_succ, ez]
        exact _root_.G.DpAll.append (dpAll_mono yy t) (.cons w5 .nil)
      | false =>
        rw [if_neg (by decide)]
        obtain ⟨ez, u2⟩ := t5 rfl
        obtain ⟨k6, n6, h6⟩ := (close k4 u2).unlock frD frZ
        have yy : Sub B' B4 := (y2.trans y3).trans y4
        refine ⟨B4, acc, k6, y.trans yy, n6, h6, ?_⟩
        rw [fm_succ, ez]
        simp only [Option.toList_none, List.append_nil]
        exact dpAll_mono yy t
    · rintro H' ⟨B', acc, k', y, nw, hD', t⟩
      obtain ⟨k6, n6, h6⟩ := (Ok.merge k1 (k'.lock nw hD') y hm).unlock frD frZ
      exact q D acc B' H' k6 (x1.trans y) n6 h6 t
/-- [elt for tg in iter if ..] -/
theorem dl_lc {scope : Scope} {own : List (Str × Nat)} (hc : X.calm = true) (hN : X.N.Nodup) (ok : BlkOk X.N X.env.scope scope own) (hi : DI X ρ tg iter xs ρ1) (ρs : Nat → Env') (ys : Nat → Option PyData)
    (turn : ∀ i x, xs[i]? = some x → LcT X scope (own.map (·.2)) tg ifs elt x (ρs i) (ys i) (ρs (i + 1))) (h0 : Wk (wipeE ρ1 (own.map (·.2))) (ρs 0)) (hu : ∀ i, Wk (wipeE (ρs i) (own.map (·.2))) (ρs i)) (hm : Mrg ρ1 (ρs xs.length) (own.map (·.2)) ρ') (hz : xs.length ≤ sizeLine)
    (hs : ∀ x, foldedSetIterable iter X.env x = pure x := by intro _; rfl) : DL X ρ (.ListComp elt [⟨tg, iter, ifs, 0⟩] scope pos) ((List.range xs.length).filterMap ys) ρ' := fun F Z B H σ Q k q =>
  ⟨_, pe_lc hc hN pi_s ok pg_b pts_b pe_b hs, lc_go hi ρs ys h0 hu turn hm hz k q⟩
theorem ds_setLc {i : Nat} {y : Str} {py spos : Pos} {s0 : Sl} {scope : Scope} {own : List (Str × Nat)} (hc : X.calm = true) (hN : X.N.Nodup) (ok : BlkOk X.N X.env.scope scope own) (hsw : swapsWith (.ListComp elt [⟨tg, iter, ifs, 0⟩] scope pos) (some (.Name y py)) spos.line X.env = pure true)
    (hi : DI X ρ tg iter xs ρ1) (ρs : Nat → Env') (ys : Nat → Option PyData)
    (turn : ∀ i x, xs[i]? = some x → LcT X scope (own.map (·.2)) tg ifs elt x (ρs i) (ys i) (ρs (i + 1))) (h0 : Wk (wipeE ρ1 (own.map (·.2))) (ρs 0)) (hu : ∀ i, Wk (wipeE (ρs i) (own.map (·.2))) (ρs i)) (hm : Mrg ρ1 (ρs xs.length) (own.map (·.2)) ρ') (hz : xs.length ≤ sizeLine)
    (hr : ρ'[i]? = some s0 := by rfl) (hy : X.N[i]? = some y := by rfl) (hyl : X.env.scope.names.lookup y = some .local := by rfl) (hs : ∀ x, foldedSetIterable iter X.env x = pure x := by intro _; rfl) :
    DS X ρ (.Assign [.Name y py] (.ListComp elt [⟨tg, iter, ifs, 0⟩] scope pos) spos) (.nx (ρ'.set i (.o (.lst ((List.range xs.length).filterMap ys))))) := fun F Z B H σ D k q =>
  ⟨_, ps_setLc hc hN hy hyl hsw pi_s ok pg_b pts_b pe_b hs, lc_go hi ρs ys h0 hu turn hm hz k fun p us B' H' k' x n hp t => q B' H' _ (k'.take n (List.getElem?_eq_some_iff.mp hr).1 (.lst hp t)) x⟩
/-- one turn without tests -/
theorem LcT.map {scope : Scope} {vs js : List Nat} {x z : PyData} {ρt ρe : Env'} (hj : ∀ j ∈ js, j ∈ vs) (h1 : Blk X scope fun Y => DG Y ρ tg x js ρt) (h2 : Blk X scope fun Y => DE Y ρt elt (.d z) ρe) (w : Wk ρe ρ') : LcT X scope vs tg [] elt x ρ (some z) ρ' :=
  ⟨ρt, js, true, ρt, hj, h1, fun _ _ _ _ _ => dts_nil, fun _ => ⟨z, ρe, rfl, h2, w⟩, fun h => nomatch h⟩
/-- one turn with a test -/
theorem LcT.iff {scope : Scope} {vs js : List Nat} {x z : PyData} {b : Bool} {ρt ρa ρe : Env'} (hj : ∀ j ∈ js, j ∈ vs) (h1 : Blk X scope fun Y => DG Y ρ tg x js ρt) (ht : Blk X scope fun Y => DT Y ρt c b ρa) (h2 : b = true → Blk X scope fun Y => DE Y ρa elt (.d z) ρe) (w : b = true → Wk ρe ρ') (w' : b = false → Wk ρa ρ') :
    LcT X scope vs tg [c] elt x ρ (if b then some z else none) ρ' :=
  ⟨ρt, js, b, ρa, hj, h1, fun s H C cl fp => dts_one (ht s H C cl fp), fun e => ⟨z, ρe, by rw [e]; rfl, h2 e, w e⟩, fun e => ⟨by rw [e]; rfl, w' e⟩⟩
theorem fm_take {α β : Type} (g : α → Option β) (xs : List α) : ∀ n : Nat, (List.range n).filterMap (fun i => xs[i]?.bind g) = (xs.take n).filterMap g
  | 0 => by simp
  | n + 1 => by
    rw [fm_succ, fm_take g xs n, List.take_add_one, List.filterMap_append]
    congr 1
    cases xs[n]? with
    | none => rfl
    | some y => cases h : g y <;> simp [h]
theorem fm_at {α β : Type} (g : α → Option β) (xs : List α) : (List.range xs.length).filterMap (fun i => xs[i]?.bind g) = xs.filterMap g := by
  rw [fm_take, List.take_length]
end
end G

set_option Elab.async false
set_option linter.all false
set_option maxRecDepth 100000
set_option maxHeartbeats 4000000
/- contracts of defs, calls, methods of our own lists -/
namespace G
open PySem L2 PySem.Spec PyProof.Rows

section
variable {K : PySem.W.Frag} {F F' : Hp} {Z Z' : Addr → Prop} {B B' H H' : Hp} {σ σ' : L2.St} {ρ ρ' ρ1 : Env'}
theorem gV_cons0 {v : Option V} {σ : L2.St} : gV (v :: σ) 0 = v := rfl
theorem gV_consS {v : Option V} {σ : L2.St} {i : Nat} : gV (v :: σ) (i + 1) = gV σ i := by unfold gV; simp
theorem gS_cons0 {v : Sl} {σ : Env'} : gS (v :: σ) 0 = v := rfl
theorem gS_consS {v : Sl} {σ : Env'} {i : Nat} : gS (v :: σ) (i + 1) = gS σ i := by unfold gS; simp
theorem gS_nil {i : Nat} : gS [] i = .un := rfl
theorem slots_d : ∀ {ds : List PyData} {vs : List V}, DpAll K B vs ds → ∀ i, SlAt K B H (gV (vs.map some) i) [] (gS (ds.map Sl.d) i)
  | _, _, .nil, i => by show SlAt K B H _ [] (gS [] i); rw [gS_nil]; exact .un
  | _, _, .cons h t, 0 => .d h
  | _, _, .cons h t, i + 1 => by rw [List.map_cons, List.map_cons, gV_consS, gS_consS]; exact slots_d t i
theorem okD {ds : List PyData} {vs : List V} (exF : Sub F H) (exB : Sub B H) (z : ∀ a, Z a → B a = none ∧ ∃ o, H a = some o) (t : DpAll K B vs ds) : Ok K F Z B H (vs.map some) (ds.map Sl.d) :=
  ⟨exF, exB, z, by rw [List.length_map, List.length_map, DpAll.length t], fun _ => [], ⟨fun _ _ h => absurd h (by simp), fun _ _ _ h => absurd h (by simp), slots_d t⟩⟩
theorem okS {ds : List PyData} {vs : List V} {v0 : V} {as : List Addr} {b : Ob} (exF : Sub F H) (exB : Sub B H) (z : ∀ a, Z a → B a = none ∧ ∃ o, H a = some o) (h0 : ObAt K B H v0 as b) (hf : ∀ a ∈ as, F a = none ∧ B a = none ∧ ¬ Z a) (t : DpAll K B vs ds) :
    Ok K F Z B H ((v0 :: vs).map some) (.o b :: ds.map Sl.d) := by
  refine ⟨exF, exB, z, by simp [DpAll.length t], fun i => if i = 0 then as else [], fun i a ha => ?_, fun i j a ha hb => ?_, fun i => ?_⟩
  · dsimp only at ha
    split at ha
    · exact hf a ha
    · cases ha
  · dsimp only at ha hb
    split at ha
    · split at hb
      · rename_i h1 h2; rw [h1, h2]
      · cases hb
    · cases ha
  · cases i with
    | zero => exact .o h0
    | succ i =>
      rw [List.map_cons, gV_consS, gS_consS]
      exact slots_d t i
theorem Ok.app (k : Ok K F Z B H σ ρ) (n : Nat) : Ok K F Z B H (σ ++ List.replicate n none) (ρ ++ List.replicate n .un) := by
  refine ⟨k.exF, k.exB, k.z, by simp [k.len], ?_⟩
  obtain ⟨own, h1, h2, h3⟩ := k.own
  refine ⟨own, h1, h2, fun i => ?_⟩
  have q := h3 i
  by_cases h : i < ρ.length
  · have e1 : gS (ρ ++ List.replicate n .un) i = gS ρ i := by unfold gS; rw [List.getElem?_append_left h]
    have e2 : gV (σ ++ List.replicate n none) i = gV σ i := by unfold gV; rw [List.getElem?_append_left (by rw [k.len]; exact h)]
    rw [e1, e2]; exact q
  · have e0 : gS ρ i = .un := by unfold gS; rw [List.getElem?_eq_none (by omega)]; rfl
    have e1 : gS (ρ ++ List.replicate n .un) i = .un := by
      unfold gS
      rw [List.getElem?_append_right (by omega), List.getElem?_replicate]
      split <;> rfl
    rw [e0] at q
    rw [e1]
    generalize own i = as at q ⊢
    generalize gV σ i = vv at q
    cases q
    exact .un
end

/-! ### contracts -/
/-- a def of data: Ψ arguments answer -/
def spP (K : PySem.W.Frag) (Ψ : List PyData → PyData → Prop) : Sp := fun vs H Q _ => ∃ F Z B ds d, Ψ ds d ∧ Ok K F Z B H (vs.map some) (ds.map Sl.d) ∧
  ∀ v B' H', Ok K F Z B' H' (vs.map some) (ds.map Sl.d) → Sub B B' → Dp K B' v d → Q v H'
/-- a def that draws: Ψ source arguments answer source -/
def spS (K : PySem.W.Frag) (Ψ : Src → List PyData → PyData → Src → Prop) : Sp := fun vs H Q _ => ∃ F Z B a st ds d st', Ψ st ds d st' ∧ Ok K F Z B H (vs.map some) (.o (.src a st) :: ds.map Sl.d) ∧
  ∀ v B' H', Ok K F Z B' H' (vs.map some) (.o (.src a st') :: ds.map Sl.d) → Sub B B' → Dp K B' v d → Q v H'

section
variable {P : Program} {w : World} {K : PySem.W.Frag} {mg : Str → Option Value} {base : Heap} {x qual : Str} {st : Stmt} {f : Addr} {fd : FuncData} {N ps : List Str} {k : Nat}
theorem fnP_of {Ψ : List PyData → PyData → Prop} (Fn : Fun K x qual st f fd) (S : FnScope N ps (defScope st)) (len : ∀ ds d, Ψ ds d → ds.length = ps.length)
    (body : ∀ (cdv : Value) (A : Around) (outer : List Env) (s : Shared) (H : Hp) (E : XK) (ds : List PyData) (d : PyData), A.guards = some [] → Room k (A.deeper (envOfC qual (defScope st) s.heap.objs.size f cdv)) → Ψ ds d →
      ∃ ρ', DB (cxOf L2.CX0 P w K mg base N qual (defScope st) f cdv A outer s H E).nox (ds.map Sl.d ++ List.replicate (N.length - ds.length) .un) (defBody st) (.rt d ρ')) :
    FnG P w K mg base (k + 1) f fd ps (spP K Ψ) := by
  refine fnG_of Fn S ?_ ?_
  · rintro vs H Q E ⟨F, Z, B, ds, d, h, k, _⟩
    have e := k.len
    rw [List.length_map, List.length_map] at e
    rw [e, len ds d h]
  · rintro cdv A outer s H vs Q E hg hr ⟨F, Z, B, ds, d, h, k, q⟩
    obtain ⟨ρ', hb⟩ := body cdv A outer s H E ds d hg hr h
    have e := k.len
    rw [List.length_map, List.length_map] at e
    have kk := k.app (N.length - ds.length)
    refine ⟨_, pb_s, hb F Z B H _ _ (by unfold L2.start; rw [e]; exact kk) fun v B' H' σ' k' y dv => ?_⟩
    refine q v B' H' (okD k'.exF k'.exB k'.z ?_) y dv
    -- the arguments read as before
    have rd : DpAll K B vs ds := by
      have all : ∀ (vs : List V) (ds : List PyData), vs.length = ds.length → (∀ i, SlAt K B H (gV (vs.map some) i) [] (gS (ds.map Sl.d) i) ∨ ∃ as, SlAt K B H (gV (vs.map some) i) as (gS (ds.map Sl.d) i)) → DpAll K B vs ds := by
        intro vs
        induction vs with
        | nil => intro ds hl _; cases ds with | nil => exact .nil | cons _ _ => cases hl
        | cons v vs ih =>
          intro ds hl hh
          cases ds with
          | nil => cases hl
          | cons d ds =>
            refine .cons ?_ (ih ds (by simpa using hl) fun i => ?_)
            · rcases hh 0 with q | ⟨as, q⟩
              · cases q with | d q => exact q
              · cases q with | d q => exact q
            · have q := hh (i + 1)
              rw [List.map_cons, List.map_cons, gV_consS, gS_consS] at q
              exact q
      obtain ⟨own, _, _, h3⟩ := k.own
      exact all vs ds e fun i => .inr ⟨own i, h3 i⟩
    exact dpAll_mono y rd
theorem dpAll_of {B H : Hp} {own : Nat → List Addr} : ∀ (vs : List V) (ds : List PyData), vs.length = ds.length → (∀ i, SlAt K B H (gV (vs.map some) i) (own i) (gS (ds.map Sl.d) i)) → DpAll K B vs ds := by
  intro vs
  induction vs generalizing own with
  | nil => intro ds hl _; cases ds with | nil => exact .nil | cons _ _ => cases hl
  | cons v vs ih =>
    intro ds hl hh
    cases ds with
    | nil => cases hl
    | cons d ds =>
      refine .cons ?_ (ih (own := fun i => own (i + 1)) ds (by simpa using hl) fun i => ?_)
      · have q := hh 0
        rw [List.map_cons, List.map_cons, gV_cons0, gS_cons0] at q
        generalize own 0 = as at q
        cases q with | d q => exact q
      · have q := hh (i + 1)
        rw [List.map_cons, List.map_cons, gV_consS, gS_consS] at q
        exact q
theorem fnS_of {Ψ : Src → List PyData → PyData → Src → Prop} (Fn : Fun K x qual st f fd) (S : FnScope N ps (defScope st)) (len : ∀ st ds d st', Ψ st ds d st' → ds.length + 1 = ps.length)
    (body : ∀ (cdv : Value) (A : Around) (outer : List Env) (s : Shared) (H : Hp) (E : XK) (a : Addr) (sr : Src) (ds : List PyData) (d : PyData) (sr' : Src), A.guards = some [] → Room k (A.deeper (envOfC qual (defScope st) s.heap.objs.size f cdv)) → Ψ sr ds d sr' →
      ∃ ρ', ρ'[0]? = some (.o (.src a sr')) ∧ DB (cxOf L2.CX0 P w K mg base N qual (defScope st) f cdv A outer s H E).nox (.o (.src a sr) :: (ds.map Sl.d ++ List.replicate (N.length - (ds.length + 1)) .un)) (defBody st) (.rt d ρ')) :
    FnG P w K mg base (k + 1) f fd ps (spS K Ψ) := by
  refine fnG_of Fn S ?_ ?_
  · rintro vs H Q E ⟨F, Z, B, a, sr, ds, d, sr', h, k, _⟩
    have e := k.len
    rw [List.length_map, List.length_cons, List.length_map] at e
    rw [e, len _ ds d _ h]
  · rintro cdv A outer s H vs Q E hg hr ⟨F, Z, B, a, sr, ds, d, sr', h, k, q⟩
    obtain ⟨ρ', h0, hb⟩ := body cdv A outer s H E a sr ds d sr' hg hr h
    have e := k.len
    rw [List.length_map, List.length_cons, List.length_map] at e
    have kk := k.app (N.length - (ds.length + 1))
    refine ⟨_, pb_s, hb F Z B H _ _ (by unfold L2.start; rw [e]; exact kk) fun v B' H' σ' k' y dv => ?_⟩
    cases vs with
    | nil => cases e
    | cons v0 vs =>
      obtain ⟨own, h1, h2, h3⟩ := k.own
      have rd : DpAll K B vs ds := by
        refine dpAll_of (H := H) (own := fun i => own (i + 1)) vs ds (by simpa using e) fun i => ?_
        have q := h3 (i + 1)
        rw [List.map_cons, gV_consS, gS_consS] at q
        exact q
      have e0 : v0 = .ref a := by
        have q := h3 0
        rw [List.map_cons, gV_cons0, gS_cons0] at q
        generalize own 0 = as at q
        cases q with | o q => cases q; rfl
      obtain ⟨v', as, g1, g2, g3⟩ := k'.ob (gS_some h0)
      have e1 : v' = .ref a := by cases g2; rfl
      subst e0 e1
      exact q v B' H' (okS k'.exF k'.exB k'.z g2 g3 (dpAll_mono y rd)) y dv
end

/-! ### calls -/
section
variable {X : Cx} {ρ ρ' ρ1 ρ2 ρ3 : Env'} {a b c e : Expr} {es : List Expr} {r r1 r2 r3 : R} {pos p : Pos} {k : Nat} {f : Addr} {fd : FuncData} {ps : List Str} {x : Str} {ds : List PyData} {d : PyData}
theorem de_callP {Ψ : List PyData → PyData → Prop} (Fn : FnG X.prog X.w X.K X.mg X.base k f fd ps (spP X.K Ψ)) (hgd : X.A.guards = some []) (hr : Room k X.A) (hm : X.mg x = some (.ref f)) (hk : PySem.W.keepIn X.K (.ref f) = true) (hb : Binds X.K fd ps [])
    (hΨ : Ψ ds d) (h : DA X ρ (e :: es) ds ρ1) (hg : Gl X x := by rfl) (hdb : (x == ("__debug__" : Str)) = false := by decide) (he : starEach (e :: es) X.env = (false, eval e X.env) :: starEach es X.env := by rfl)
    (hpl : (backTo pos (starEach es X.env)).any (·.1) = false := by rfl) : DE X ρ (.Call (.Name x p) (e :: es) [] pos) (.d d) ρ1 := fun F Z B H σ Q k' q =>
  ⟨_, pe_callG Fn hgd hr hg hm hk hb pa_s hdb he hpl, h F Z B H σ _ k' fun vs B1 H1 k1 x1 t => by
    show spP X.K Ψ (vs ++ []) H1 Q L2.E0
    rw [List.append_nil]
    refine ⟨H1, fun b => H1 b ≠ none ∧ B1 b = none, B1, ds, d, hΨ, okD (Sub.refl H1) k1.exB (fun b hb => ⟨hb.2, Option.ne_none_iff_exists'.mp hb.1⟩) t, fun v B2 H2 k2 y w => ?_⟩
    exact q v B2 H2 (k1.grow y k2.exF k2.exB fun b hb hb' => (k2.z b ⟨hb, hb'⟩).1) (x1.trans y) w⟩
theorem de_callS {Ψ : Src → List PyData → PyData → Src → Prop} {i : Nat} {sa : Addr} {sr sr' : Src} (Fn : FnG X.prog X.w X.K X.mg X.base k f fd ps (spS X.K Ψ)) (hgd : X.A.guards = some []) (hr : Room k X.A) (hm : X.mg x = some (.ref f)) (hk : PySem.W.keepIn X.K (.ref f) = true) (hb : Binds X.K fd ps [])
    (hΨ : Ψ sr ds d sr') (h0 : DE X ρ e (.o i) ρ1) (h : DA X ρ1 es ds ρ2) (hs : ρ2[i]? = some (.o (.src sa sr)) := by rfl) (hg : Gl X x := by rfl) (hdb : (x == ("__debug__" : Str)) = false := by decide) (he : starEach (e :: es) X.env = (false, eval e X.env) :: starEach es X.env := by rfl)
    (hpl : (backTo pos (starEach es X.env)).any (·.1) = false := by rfl) : DE X ρ (.Call (.Name x p) (e :: es) [] pos) (.d d) (ρ2.set i (.o (.src sa sr'))) := fun F Z B H σ Q k' q =>
  ⟨_, pe_callG Fn hgd hr hg hm hk hb (pa_cons pe_s pa_s he) hdb he hpl, h0 F Z B H σ _ k' fun v0 B0 H0 k0 x0 w0 => h F Z B0 H0 σ _ k0 fun vs B1 H1 k1 x1 t => by
    show spS X.K Ψ ((v0 :: vs) ++ []) H1 Q L2.E0
    rw [List.append_nil]
    obtain ⟨v', as, g1, g2, g3⟩ := k1.ob (gS_some hs)
    have w' : gV σ i = some v0 := w0
    rw [w'] at g1
    cases g1
    have eas := g2
    cases g2 with
    | @src _ l _ n1 n2 n3 =>
    have fa := g3 sa List.mem_cons_self
    have fl := g3 l (List.mem_cons_of_mem _ List.mem_cons_self)
    let F' : Hp := fun b => if b = sa ∨ b = l then none else H1 b
    have F'n : ∀ b, (b = sa ∨ b = l) → F' b = none := fun b hb => if_pos hb
    have F'o : ∀ b, ¬ (b = sa ∨ b = l) → F' b = H1 b := fun b hb => if_neg hb
    have FF : Sub F F' := fun b o hb => by
      rw [F'o b fun z => ?_]
      · exact k1.exF b o hb
      · rcases z with z | z
        · rw [z, fa.1] at hb; cases hb
        · rw [z, fl.1] at hb; cases hb
    have F'H : Sub F' H1 := fun b o hb => by
      by_cases z : b = sa ∨ b = l
      · rw [F'n b z] at hb; cases hb
      · rw [F'o b z] at hb; exact hb
    refine ⟨F', fun b => (H1 b ≠ none ∧ B1 b = none) ∧ ¬ (b = sa ∨ b = l), B1, sa, sr, ds, d, sr', hΨ, okS F'H k1.exB (fun b hb => ⟨hb.1.2, Option.ne_none_iff_exists'.mp hb.1.1⟩) eas (fun b hb => ?_) t, fun v B2 H2 k2 y w => ?_⟩
    · have hb' : b = sa ∨ b = l := by simpa using hb
      exact ⟨F'n b hb', (g3 b hb).2.1, fun z => z.2 hb'⟩
    · obtain ⟨v2, as2, u1, u2, u3⟩ := k2.ob (i := 0) (b := .src sa sr') rfl
      obtain ⟨own, o1, o2, o3⟩ := k1.own
      have oi : own i = [sa, l] := by
        have qq := o3 i
        rw [gS_some hs, w'] at qq
        generalize own i = os at qq
        cases qq with
        | o qq => exact ObAt.uni qq eas fun _ _ => rfl
      have hi : i < ρ2.length := (List.getElem?_eq_some_iff.mp hs).1
      have ev : v2 = .ref sa := by cases u2; rfl
      subst ev
      have zz : ∀ b, b ∉ [sa, l] → (∃ o, H1 b = some o) → B1 b = none → B2 b = none ∧ H2 b = H1 b := fun b hb ⟨o, ho⟩ hb1 => by
        have nb : ¬ (b = sa ∨ b = l) := by simpa using hb
        refine ⟨(k2.z b ⟨⟨by rw [ho]; simp, hb1⟩, nb⟩).1, ?_⟩
        rw [ho]
        exact k2.exF b o (by rw [F'o b nb]; exact ho)
      refine q v B2 H2 ⟨FF.trans k2.exF, k2.exB, fun b hb => ?_, by simp [k1.len], fun j => if j = i then as2 else own j, fun j b hb => ?_, fun j m b hb hb' => ?_, fun j => ?_⟩ ((x0.trans x1).trans y) w
      · obtain ⟨q1, q2⟩ := k1.z b hb
        have nb : b ∉ [sa, l] := fun m => (g3 b m).2.2 hb
        obtain ⟨q3, q4⟩ := zz b nb q2 q1
        obtain ⟨o, ho⟩ := q2
        exact ⟨q3, o, q4.trans ho⟩
      · dsimp only at hb
        split at hb
        · obtain ⟨t1, t2, t3⟩ := u3 b hb
          refine ⟨FF.none t1, t2, fun hz => ?_⟩
          obtain ⟨q1, q2⟩ := k1.z b hz
          have nb : b ∉ [sa, l] := fun m => (g3 b m).2.2 hz
          exact t3 ⟨⟨by obtain ⟨o, ho⟩ := q2; rw [ho]; simp, q1⟩, by simpa using nb⟩
        · rename_i nj
          obtain ⟨t1, t2, t3⟩ := o1 j b hb
          have nb : b ∉ [sa, l] := fun m => nj (o2 j i b hb (by rw [oi]; exact m))
          exact ⟨t1, (zz b nb ((o3 j).live b hb) t2).1, t3⟩
      · have cross : ∀ {j : Nat}, j ≠ i → b ∈ own j → b ∉ as2 := fun {j} nj h1 h2 => by
          have nb : b ∉ [sa, l] := fun m => nj (o2 j i b h1 (by rw [oi]; exact m))
          obtain ⟨o, ho⟩ := (o3 j).live b h1
          exact (u3 b h2).2.2 ⟨⟨by rw [ho]; simp, (o1 j b h1).2.1⟩, by simpa using nb⟩
        dsimp only at hb hb'
        by_cases ej : j = i
        · by_cases em : m = i
          · rw [ej, em]
          · rw [if_pos ej] at hb; rw [if_neg em] at hb'
            exact absurd hb (cross em hb')
        · by_cases em : m = i
          · rw [if_neg ej] at hb; rw [if_pos em] at hb'
            exact absurd hb' (cross ej hb)
          · rw [if_neg ej] at hb; rw [if_neg em] at hb'
            exact o2 j m b hb hb'
      · rw [gS_set]
        by_cases ej : j = i
        · subst ej
          simp only [hi, and_true, if_true]
          rw [w']; exact .o u2
        · simp only [ej, false_and, if_false]
          refine (o3 j).mono y fun b hb => ?_
          have nb : b ∉ [sa, l] := fun m => ej (o2 j i b hb (by rw [oi]; exact m))
          exact (zz b nb ((o3 j).live b hb) (o1 j b hb).2.1).2⟩
/-- xs.append(e), xs a list of our own -/
theorem ds_append {i : Nat} {xs : List PyData} {y : PyData} {apos : Pos} (hz : xs.length < sizeLine) (h0 : DE X ρ a (.o i) ρ1) (h : DE X ρ1 e (.d y) ρ2) (hs0 : ρ1[i]? = some (.o (.lst xs)) := by rfl) (hs : ρ2[i]? = some (.o (.lst xs)) := by rfl) (hbase : attributeBase a "append" X.env (eval a X.env) = eval a X.env := by rfl)
    (hfew : ((backTo p (starEach [e] X.env)).all (fun x => !x.1) && (backToKw p (keywordEach [] X.env)).all (fun x => x.1.isSome) && decide ([e].length + ([] : List Keyword).length + (if ([] : List Keyword).isEmpty then 0 else 1) < 30)) = true := by rfl)
    (hline : (apos.endLine == p.line) = true := by rfl) (he : starEach [e] X.env = (false, eval e X.env) :: starEach [] X.env := by rfl) (hpl : (backTo p (starEach [] X.env)).any (·.1) = false := by rfl) (hsw : swapsWith (.Call (.Attribute a "append" apos) [e] [] p) none pos.line X.env = pure false := by rfl) :
    DS X ρ (.Expr (.Call (.Attribute a "append" apos) [e] [] p) pos) (.nx (ρ2.set i (.o (.lst (xs ++ [y]))))) := fun F Z B H σ D k q =>
  ⟨_, ps_expr (pe_bm PySem.F.plainAttrs_list PySem.F.slot_list_append PySem.F.type_list_append mt_append pe_s (pa_cons pe_s pa_nil he) hbase hfew hline he hpl) hsw, h0 F Z B H σ _ k fun v B1 H1 k1 x1 w1 => by
    obtain ⟨v', as, g1, g2, _⟩ := k1.ob (gS_some hs0)
    have w' : gV σ i = some v := w1
    rw [w'] at g1
    cases g1
    cases g2 with
    | @lst l us _ hl t =>
    refine ⟨.inl ⟨rfl, us, SqL.of hl⟩, h F Z B1 H1 σ _ k1 fun u B2 H2 k2 x2 w2 => ?_⟩
    obtain ⟨v', as, g1, g2, _⟩ := k2.ob (gS_some hs)
    rw [w'] at g1
    cases g1
    cases g2 with
    | @lst _ us2 _ hl2 t2 =>
    refine ⟨l, us2, u, rfl, rfl, hl2, by rw [DpAll.length t2]; exact hz, ?_⟩
    refine q B2 _ σ (k2.turn (gS_some hs) w' (.lst hl2 t2) (.lst upd_same (G.DpAll.append t2 (.cons w2 .nil))) fun b hb => ?_) (x1.trans x2)
    rw [upd_ne fun z => hb (by rw [z]; exact List.mem_singleton.mpr rfl)]⟩
end
end G

set_option Elab.async false
set_option linter.all false
set_option maxRecDepth 100000
set_option maxHeartbeats 4000000
/- repr, sorted, dicts whose keys are tuples -/
namespace G
open PySem L2 PySem.Spec PyProof.Rows

/-! ### repr -/
section
variable {K : PySem.W.Frag} {B : Hp}
mutual
theorem dp_noDict : ∀ {d : PyData} {v : V}, Dp K B v d → d.showable = true → d.hasDict = false
  | _, _, .non, _ => rfl
  | _, _, .bl b, _ => rfl
  | _, _, .int i, _ => rfl
  | _, _, .str z, _ => rfl
  | _, _, .lst s r, h => by rw [PyData.hasDict]; exact dpAll_noDict r (by rwa [PyData.showable] at h)
  | _, _, .tup s _ r, h => by rw [PyData.hasDict]; exact dpAll_noDict r (by rwa [PyData.showable] at h)
  | _, _, .dct _ _ _, h => by
    rw [PyData.showable, PyData.showableKv, big_no] at h
    cases h
  | _, _, .dnn _ _ _ _ _ _ _ _ _ _, h => by
    rw [PyData.showable, PyData.showableKv, big_no] at h
    cases h
theorem dpAll_noDict : ∀ {ds : List PyData} {vs : List V}, DpAll K B vs ds → PyData.showableAll ds = true → PyData.hasDictAll ds = false
  | _, _, .nil, _ => rfl
  | _, _, .cons h t, n => by
    rw [PyData.showableAll, Bool.and_eq_true] at n
    rw [PyData.hasDictAll, dp_noDict h n.1, dpAll_noDict t n.2]; rfl
end
end
mutual
theorem alike_noDict : ∀ d : PyData, PySem.W.alike d d = true → d.hasDict = false
  | .none, _ => rfl
  | .bool _, _ => rfl
  | .int _, _ => rfl
  | .str _, _ => rfl
  | .list xs, h => by rw [PyData.hasDict]; exact alikeAll_noDict xs (by rwa [PySem.W.alike] at h)
  | .tuple xs, h => by rw [PyData.hasDict]; exact alikeAll_noDict xs (by rwa [PySem.W.alike] at h)
  | .dict _, h => by simp [PySem.W.alike] at h
theorem alikeAll_noDict : ∀ ds : List PyData, PySem.W.alikeAll ds ds = true → PyData.hasDictAll ds = false
  | [], _ => rfl
  | x :: xs, h => by
    rw [PySem.W.alikeAll, Bool.and_eq_true] at h
    rw [PyData.hasDictAll, alike_noDict x h.1, alikeAll_noDict xs h.2]; rfl
end
mutual
theorem nk_noDict : ∀ k : NestedKey, k.data.hasDict = false
  | .none => rfl
  | .num _ => rfl
  | .text _ => rfl
  | .tup ks => by rw [NestedKey.data, PyData.hasDict]; exact nks_noDict ks
theorem nks_noDict : ∀ ks : List NestedKey, PyData.hasDictAll (NestedKey.datas ks) = false
  | [] => rfl
  | k :: ks => by rw [NestedKey.datas, PyData.hasDictAll, nk_noDict k, nks_noDict ks]; rfl
end
def rReprD (K : PySem.W.Frag) : List V → Hp → VK → Prop := fun vs H Q => ∃ v d, vs = [v] ∧ Dp K H v d ∧ d.showable = true ∧ d.depth ≤ 64 ∧ d.shown.length ≤ sizeLine ∧ Q (.str d.shown) H
section
variable {X : Cx}
theorem call_reprD (hg : X.A.guards = some []) (hu : X.A.units + 100 < cLine) : CallR X (.builtin "repr") (rReprD X.K) := by
  intro pins s σ H vs us Q I r h
  obtain ⟨v, d, rfl, hd, hs, hdp, hz, q⟩ := h
  obtain ⟨u, rfl, rv⟩ := vals1 r
  have toRef : ∀ a : Addr, u = .ref a → wpAny (model X.prog X.w) X.A (call (.builtin "repr") [u]) (EP X pins σ Q) X.xe s := by
    intro a e
    obtain ⟨as, rd⟩ := Dp.reads I d v u (hd.l2 (dp_noDict hd hs)) rv
    subst e
    refine repr_of_reads' rd hs (PyData.noDict_hsm (dp_noDict hd hs)) hg (by omega) (fun _ _ e => e) ?_ hz
    intro h' t tk hk
    exact ⟨.str d.shown, H, I.kept hk, ⟨_, rfl⟩, q⟩
  cases hd with
  | non =>
    have e : u = Value.none := rv
    subst e
    exact PySem.P.repr_of_none ⟨.str "None", H, I.tok _, ⟨_, rfl⟩, q⟩
  | bl b =>
    have e : u = Value.bool b := rv
    subst e
    refine PySem.P.repr_of_bool ⟨.str (if b then "True" else "False"), H, I.tok _, ⟨_, rfl⟩, ?_⟩
    cases b <;> exact q
  | int i =>
    obtain ⟨t, e⟩ := rv
    subst e
    refine PySem.P.repr_of_int ?_ ⟨.str (toString i), H, I.tok _, ⟨_, rfl⟩, q⟩
    rw [PyData.showable] at hs
    exact of_decide_eq_true hs
  | str x =>
    obtain ⟨t, e⟩ := rv
    subst e
    exact PySem.P.repr_of_str ⟨.str (reprText x), H, I.tok _, ⟨_, rfl⟩, q⟩ hz
  | lst _ _ => exact toRef _ rv
  | tup _ _ => exact toRef _ rv
  | dct _ _ _ => exact toRef _ rv
  | dnn _ _ _ _ _ _ _ _ _ _ => exact toRef _ rv
end
section
variable {X : Cx} {ρ ρ' ρ1 ρ2 ρ3 : Env'} {a b c e : Expr} {es : List Expr} {r r1 r2 r3 : R} {pos p : Pos} {x : PyData} {xs : List PyData}
theorem de_repr (hgd : X.A.guards = some []) (hu : X.A.units + 100 < cLine) (hs : x.showable = true) (hd : x.depth ≤ 64) (hz : x.shown.length ≤ sizeLine) (hm : X.mg "repr" = none) (h : DE X ρ e (.d x) ρ1) (hg : Gl X "repr" := by rfl)
    (he : starEach [e] X.env = (false, eval e X.env) :: starEach [] X.env := by rfl) (hpl : (backTo pos (starEach [] X.env)).any (·.1) = false := by rfl) : DE X ρ (.Call (.Name "repr" p) [e] [] pos) (.d (.str x.shown)) ρ1 :=
  de_cB (r := .d x) (call_reprD hgd hu) (fun F Z B H σ Q v k w q => ⟨v, x, rfl, dp_mono k.exB w, hs, hd, hz, q _ B H k (Sub.refl B) (.str _)⟩) PyProof.Rows.boot_repr hm hg h (by decide) (by decide) he hpl
end

/-! ### sorted of data -/
theorem each_zip {K : PySem.W.Frag} {B : Hp} : ∀ {ds : List PyData} {xs : List V} {its : List Value}, DpAll K B xs ds → Vals xs its → (∀ d ∈ ds, d.hasDict = false) → PySem.W.EachIs (fun (v : Value) (b : V × PyData) => RelV b.1 v ∧ Dp K B b.1 b.2 ∧ b.2.hasDict = false) its (xs.zip ds)
  | _, _, _, .nil, r, _ => by cases r; exact .nil
  | _, _, _, .cons h t, r, n => by
    cases r with
    | cons r1 r2 => exact .cons ⟨r1, h, n _ List.mem_cons_self⟩ (each_zip t r2 fun d hd => n d (List.mem_cons_of_mem _ hd))
theorem zip_dp {K : PySem.W.Frag} {B : Hp} : ∀ {ds : List PyData} {xs : List V}, DpAll K B xs ds → ∀ p ∈ xs.zip ds, Dp K B p.1 p.2
  | _, _, .nil, p, hp => by simp at hp
  | _, _, .cons h t, p, hp => by
    rcases List.mem_cons.mp (by simpa using hp) with e | e
    · subst e; exact h
    · exact zip_dp t p e
open PySem.W in
def rSortD (K : PySem.W.Frag) : List V → Hp → VK → Prop := fun vs H Q => ∃ a xs ds, vs = [.ref a] ∧ SqL K H a xs ∧ DpAll K H xs ds ∧ AllAlike ds ∧ Sortable ds ∧ (∀ d ∈ ds, d.depth ≤ 64) ∧
  ∀ p, H p = none → Q (.ref p) (upd H p (.lst (((xs.zip ds).mergeSort (dataLe false Prod.snd)).map Prod.fst)))
section
variable {X : Cx}
open PySem.W in
theorem call_sortD (hu : X.A.units + 100 < cLine) : CallR X (.builtin "sorted") (rSortD X.K) := by
  intro pins s σ H vs us Q I r h
  obtain ⟨a, xs, ds, rfl, hq, hd, hal, hk, hdp, q⟩ := h
  obtain ⟨u, rfl, rv⟩ := vals1 r
  cases rv
  obtain ⟨its, rx, pl, hz⟩ := I.list hq
  have el := DpAll.length hd
  have ea := each_zip hd rx fun d h => alike_noDict d (hal d h d h)
  have em : (xs.zip ds).map Prod.snd = ds := List.map_snd_zip (by omega)
  have hl : (xs.zip ds).length = ds.length := by rw [List.length_zip]; omega
  refine sorted_data (enc := Prod.snd) pl.isList ea (ea.mono fun v b ⟨h1, h2, h3⟩ => Dp.reads I b.2 b.1 v (h2.l2 h3) h1) (by rw [em]; exact hal) (by rw [em]; exact hk) (by rw [hl, ← el]; exact hz) ?_ ?_
  · intro b hb
    have := hdp b.2 (by rw [← em]; exact List.mem_map.mpr ⟨b, hb, rfl⟩)
    omega
  · intro out h1 h2
    obtain ⟨ep, he'⟩ := PyProof.Rows.sortedAll_at s.heap its out.toArray
    have vo : ∀ {out : List Value} {bs : List (V × PyData)}, EachIs (fun (v : Value) (b : V × PyData) => RelV b.1 v ∧ Dp X.K H b.1 b.2) out bs → Vals (bs.map Prod.fst) out := by
      intro out bs h
      induction h with
      | nil => exact .nil
      | cons h t ih => exact .cons h.1 ih
    have v2 := vo (h2.mono fun _ _ z => ⟨z.1, z.2.1⟩)
    have hlen : (((xs.zip ds).mergeSort (dataLe false Prod.snd)).map Prod.fst).length ≤ sizeLine := by
      rw [List.length_map, List.length_mergeSort, hl, ← el]; exact hz
    exact ⟨.ref _, upd H (s.heap.objs.size + 1) (.lst (((xs.zip ds).mergeSort (dataLe false Prod.snd)).map Prod.fst)), I.laid (t' := s.toks) (fun _ _ => PyProof.Rows.sortedAll_old) (Nat.le_succ _) ⟨hlen, out, ep, v2, he'⟩, rfl, q _ (I.hok.fresh (Nat.le_succ _))⟩
end
/-- the data in order -/
def sortD (ds : List PyData) : List PyData := ds.mergeSort (PySem.W.dataLe false id)
theorem sortZip {K : PySem.W.Frag} {B : Hp} {xs : List V} {ds : List PyData} (h : DpAll K B xs ds) : DpAll K B (((xs.zip ds).mergeSort (PySem.W.dataLe false Prod.snd)).map Prod.fst) (sortD ds) := by
  have back : ∀ l : List (V × PyData), (∀ p ∈ l, Dp K B p.1 p.2) → DpAll K B (l.map Prod.fst) (l.map Prod.snd) := by
    intro l
    induction l with
    | nil => intro _; exact .nil
    | cons p l ih => intro hl; exact .cons (hl p List.mem_cons_self) (ih fun q hq => hl q (List.mem_cons_of_mem _ hq))
  have e : ((xs.zip ds).mergeSort (PySem.W.dataLe false Prod.snd)).map Prod.snd = sortD ds := by
    unfold sortD
    rw [PySem.W.sort_maps (r := PySem.W.dataLe false Prod.snd) (s := PySem.W.dataLe false id) Prod.snd (fun _ _ _ _ => rfl), List.map_snd_zip (by rw [DpAll.length h]; exact Nat.le_refl _)]
  rw [← e]
  exact back _ fun p hp => zip_dp h p ((List.mergeSort_perm _ _).mem_iff.mp hp)
section
variable {X : Cx} {ρ ρ' ρ1 ρ2 ρ3 : Env'} {a b c e : Expr} {es : List Expr} {r r1 r2 r3 : R} {pos p : Pos} {x : PyData} {xs : List PyData}
open PySem.W in
theorem dl_sorted (hu : X.A.units + 100 < cLine) (hal : AllAlike xs) (hk : Sortable xs) (hd : ∀ d ∈ xs, d.depth ≤ 64) (hq : RL ρ1 r xs) (hm : X.mg "sorted" = none) (h : DE X ρ e r ρ1) (hg : Gl X "sorted" := by rfl)
    (he : starEach [e] X.env = (false, eval e X.env) :: starEach [] X.env := by rfl) (hpl : (backTo pos (starEach [] X.env)).any (·.1) = false := by rfl) : DL X ρ (.Call (.Name "sorted" p) [e] [] pos) (sortD xs) ρ1 :=
  dl_cB (call_sortD hu) (fun F Z B H σ Q v k w q => by
    obtain ⟨p, vs, e, s, t⟩ := hq.at k w
    exact ⟨p, vs, xs, congrArg (fun z => [z]) e, s, dpAll_mono k.exB t, hal, hk, hd, fun l hl => q l _ B _ (k.loose hl _) (Sub.refl B) (k.laid hl _) upd_same (sortZip t)⟩) PyProof.Rows.boot_sorted hm hg h (by decide) (by decide) he hpl
end

/-! ### dicts whose keys are tuples -/
mutual
theorem nested_of_reads {h : Heap} : ∀ (k : NestedKey) (v : Value) (as : List Addr), Reads h v k.data as → NestedIs h k v ∧ as = []
  | .none, _, _, r => by rw [NestedKey.data] at r; cases r; exact ⟨.none, rfl⟩
  | .num i, _, _, r => by rw [NestedKey.data] at r; cases r; exact ⟨.int _ _, rfl⟩
  | .text x, _, _, r => by rw [NestedKey.data] at r; cases r; exact ⟨.text _ _, rfl⟩
  | .tup ks, _, _, r => by
    rw [NestedKey.data] at r
    cases r with
    | tuple h1 h2 h3 h4 =>
      obtain ⟨q1, q2⟩ := nestedAll_of_reads ks _ _ h4
      exact ⟨.tup h1 h2 h3 q1, q2⟩
theorem nestedAll_of_reads {h : Heap} : ∀ (ks : List NestedKey) (vs : List Value) (as : List Addr), ReadsAll h vs (NestedKey.datas ks) as → NestedAll h ks vs ∧ as = []
  | [], _, _, r => by rw [NestedKey.datas] at r; cases r; exact ⟨.nil, rfl⟩
  | k :: ks, _, _, r => by
    rw [NestedKey.datas] at r
    cases r with
    | cons r1 r2 =>
      obtain ⟨q1, e1⟩ := nested_of_reads k _ _ r1
      obtain ⟨q2, e2⟩ := nestedAll_of_reads ks _ _ r2
      exact ⟨.cons q1 q2, by rw [e1, e2]; rfl⟩
end
section
variable {X : Cx} {pins : List (Addr × Obj)} {σ : L2.St} {H B : Hp} {s : Shared} {a ka : Addr} {xs : List (NestedKey × Addr × Value)} {kvs : List (NestedKey × PyData)} {k : NestedKey}
theorem key_is (I : Inv X pins σ H s) (h : Dp X.K H (.ref ka) k.data) (hd : k.depth ≤ 8) : (nestedKind X.prog X.w).is s.heap k ka := by
  obtain ⟨as, rd⟩ := Dp.reads I _ _ (.ref ka) (h.l2 (nk_noDict k)) rfl
  exact ⟨(nested_of_reads k _ _ rd).1, hd⟩
theorem dn_of (I : Inv X pins σ H s) (h : H a = some (dnHO X.w a xs)) (hk : ∀ x ∈ xs, Dp X.K H (.ref x.2.1) x.1.data ∧ x.1.depth ≤ 8) (nd : (xs.map (·.1)).Nodup) : s.heap.DictOfH (nestedKind X.prog X.w) a xs := by
  obtain ⟨⟨o, es, ep, h1, h2, h3, h4⟩, _, _⟩ := I.hok a _ h
  exact ⟨o, es, ep, h1, h2, h3, h4, fun x hx => key_is I (hk x hx).1 (hk x hx).2, nd⟩
theorem dn_ok {h : Heap} {H' : Hp} {P : Program} {w : World} (m : h.DictOfH (nestedKind P w) a xs) : ObjOk P w H' h a (dnHO w a xs) := by
  obtain ⟨o, es, ep, h1, h2, h3, h4, _, _⟩ := m
  refine ⟨⟨o, es, ep, h1, h2, h3, h4⟩, ⟨o, h1⟩, fun g1 g2 ⟨o, es, ep, q1, q2, q3, q4⟩ hk => ⟨o, es, ep, hk o q1, q2, q3, q4⟩⟩
theorem nk_keys : ∀ {xs : List (NestedKey × Addr × Value)} {kvs : List (NestedKey × PyData)}, NkAll X.K B xs kvs → ∀ x ∈ xs, Dp X.K B (.ref x.2.1) x.1.data ∧ x.1.depth ≤ 8
  | _, _, .cons h1 h2 _ _ t, x, hx => by
    rcases List.mem_cons.mp hx with e | hx
    · subst e; exact ⟨h1, h2⟩
    · exact nk_keys t x hx
/-- a store -/
theorem dn_set {v : V} {u : Value} {A' : Value → Shared → Prop} {Q : Unit → Shared → Prop} (hu : X.A.units + 100 < cLine) (I : Inv X pins σ H s) (h : H a = some (dnHO X.w a xs)) (hk : ∀ x ∈ xs, Dp X.K H (.ref x.2.1) x.1.data ∧ x.1.depth ≤ 8) (nd : (xs.map (·.1)).Nodup)
    (hz : xs.length ≤ 1000000) (hkey : Dp X.K H (.ref ka) k.data) (hd : k.depth ≤ 8) (q : ∀ s', Inv X pins σ (upd H a (dnHO X.w a (storedH xs k ka u))) s' → Q () s') : wpAny (model X.prog X.w) X.A (setItem (.ref a) (.ref ka) u) Q A' s := by
  refine wpAny_setItem_heap (knd := nestedKind X.prog X.w) (by show X.A.units + 1 + 8 < cLine; omega) (key_is I hkey hd) (dn_of I h hk nd) (fun h' m' hs => ?_) (by rw [sizeLine_eq]; omega)
  obtain ⟨o, ho⟩ : ∃ o, h'.get? a = some o := by obtain ⟨o, _, _, ho, _⟩ := m'; exact ⟨o, ho⟩
  exact q _ (I.write (e := a) (o := dnHO X.w a (storedH xs k ka u)) (by rw [h]; trivial) (.inl rfl) (fun b u hb e => (hs.2 b hb).trans e) ⟨o, ho⟩ (dn_ok m'))
end
/-- the entries behind a store, as data -/
def putN (kvs : List (NestedKey × PyData)) (k : NestedKey) (d : PyData) : List (NestedKey × PyData) :=
  if k ∈ kvs.map (·.1) then kvs.map fun x => if x.1 = k then (x.1, d) else x else kvs ++ [(k, d)]
section
variable {K : PySem.W.Frag} {B : Hp} {xs : List (NestedKey × Addr × Value)} {kvs : List (NestedKey × PyData)} {k : NestedKey} {ka : Addr} {u : Value} {v : V} {d : PyData}
theorem nk_fst : ∀ {xs : List (NestedKey × Addr × Value)} {kvs : List (NestedKey × PyData)}, NkAll K B xs kvs → xs.map (·.1) = kvs.map (·.1)
  | _, _, .nil => rfl
  | _, _, .cons _ _ _ _ t => by rw [List.map_cons, List.map_cons, nk_fst t]
theorem NkAll.append : ∀ {xs : List (NestedKey × Addr × Value)} {kvs : List (NestedKey × PyData)} {ys : List (NestedKey × Addr × Value)} {kws : List (NestedKey × PyData)}, NkAll K B xs kvs → NkAll K B ys kws → NkAll K B (xs ++ ys) (kvs ++ kws)
  | _, _, _, _, .nil, s => s
  | _, _, _, _, .cons h1 h2 h3 h4 t, s => .cons h1 h2 h3 h4 (NkAll.append t s)
theorem atKey_iff (xs : List (NestedKey × Addr × Value)) (k : NestedKey) : (atKey xs k).isSome = true ↔ k ∈ xs.map (·.1) := by
  unfold atKey
  rw [Option.isSome_map, List.find?_isSome]
  simp only [decide_eq_true_eq, List.mem_map]
theorem nk_put (t : NkAll K B xs kvs) (h1 : Dp K B (.ref ka) k.data) (h2 : k.depth ≤ 8) (h3 : RelV v u) (h4 : Dp K B v d) : NkAll K B (storedH xs k ka u) (putN kvs k d) := by
  unfold storedH putN
  rw [← nk_fst t]
  by_cases m : k ∈ xs.map (·.1)
  · rw [if_pos ((atKey_iff xs k).mpr m), if_pos m]
    clear m
    induction t with
    | nil => exact .nil
    | @cons k0 a0 u0 v0 d0 r s g1 g2 g3 g4 t ih =>
      rw [List.map_cons, List.map_cons]
      unfold putAt
      by_cases e : k0 = k
      · rw [if_pos e, if_pos e]; exact .cons g1 g2 h3 h4 ih
      · rw [if_neg e, if_neg e]; exact .cons g1 g2 g3 g4 ih
  · rw [if_neg fun z => m ((atKey_iff xs k).mp z), if_neg m]
    exact NkAll.append t (.cons h1 h2 h3 h4 .nil)
theorem storedH_keys : ((storedH xs k ka u).map (·.1)) = if k ∈ xs.map (·.1) then xs.map (·.1) else xs.map (·.1) ++ [k] := by
  unfold storedH
  by_cases m : k ∈ xs.map (·.1)
  · rw [if_pos ((atKey_iff xs k).mpr m), if_pos m, List.map_map]
    refine List.map_congr_left fun x _ => ?_
    show (putAt k u x).1 = x.1
    unfold putAt
    split <;> rfl
  · rw [if_neg fun z => m ((atKey_iff xs k).mp z), if_neg m, List.map_append]; rfl
theorem storedH_nodup (nd : (xs.map (·.1)).Nodup) : ((storedH xs k ka u).map (·.1)).Nodup := by
  rw [storedH_keys]
  split
  · exact nd
  · rename_i m
    exact List.nodup_append.mpr ⟨nd, by simp, fun x hx y hy e => m (by rw [List.mem_singleton] at hy; rw [← hy, ← e]; exact hx)⟩
theorem storedH_len : (storedH xs k ka u).length ≤ xs.length + 1 := by
  unfold storedH
  split <;> simp
end
section
variable {X : Cx} {ρ ρ' ρ1 ρ2 ρ3 : Env'} {a b c e : Expr} {es : List Expr} {r r1 r2 r3 : R} {pos p : Pos} {x : PyData} {xs : List PyData}
/-- x = {} -/
theorem ds_newDn {i : Nat} {x : Str} {pos' dpos : Pos} {s0 : Sl} (hN : X.N.Nodup) (hr : ρ[i]? = some s0 := by rfl) (hi : X.N[i]? = some x := by rfl) (hx : Loc X.env.scope x := by first | exact Or.inl rfl | exact Or.inr rfl) (hs : swapsWith (.Dict [] [] dpos) (some (.Name x pos')) pos.line X.env = pure false := by rfl)
    (hf : X.fn x = true ∨ X.env.scope.names.lookup x = some .local := by first | exact .inl rfl | exact .inr rfl) : DS X ρ (.Assign [.Name x pos'] (.Dict [] [] dpos) pos) (.nx (ρ.set i (.o (.dn X.w [])))) := fun F Z B H σ D k q => by
  have pd : PE X (.Dict [] [] dpos) (fun σ H Q => ∀ d, H d = none → (d == sysModules) = false → Q (.ref d) (upd H d (dnHO X.w d []))) := ⟨fun pins s σ H Q I h => by
    have big : (s.heap.objs.size == sysModules) = false := beq_eq_false_iff_ne.mpr (Ne.symm (Nat.ne_of_lt I.big))
    refine wpAny_Dict_empty ⟨.ref s.heap.objs.size, _, I.laid (a := s.heap.objs.size) (o := dnHO X.w s.heap.objs.size []) (t' := s.toks) (fun _ _ q => Heap.get?_push_of_some _ q) (Nat.le_refl _) (dn_ok (P := X.prog) (Heap.DictOfH.new s.heap)), rfl, h _ (I.hok.fresh (Nat.le_refl _)) big⟩⟩
  exact ⟨_, ps_set hN hi hx pd hs hf, fun d hd hsy => q B _ _ ((k.loose hd _).take (k.laid hd _) (List.getElem?_eq_some_iff.mp hr).1 (.dn upd_same hsy (by simp) (by simp) .nil)) (Sub.refl B)⟩
/-- d[k] = v, d of our own, k a tuple -/
theorem ds_dnSet {i : Nat} {kvs : List (NestedKey × PyData)} {k : NestedKey} {y : PyData} {pos' : Pos} (hu : X.A.units + 100 < cLine) (hd : k.depth ≤ 8) (hz : kvs.length < 1000000) (hv : DE X ρ e (.d y) ρ1) (ho : DE X ρ1 a (.o i) ρ2) (hk : DE X ρ2 b (.d k.data) ρ3) (ht : ∃ ks, k = .tup ks)
    (hs3 : ρ3[i]? = some (.o (.dn X.w kvs)) := by rfl)
    (ha : ∀ v, assign (.Subscript a b pos') X.env v = (do
      let ov ← holding [v] (eval a X.env)
      let iv ← holding [v, ov] (eval b X.env)
      standAt pos'
      holding [v, ov, iv] (setItem ov iv v)
      release [v, ov, iv] []) := by intro _; rfl) (hs : swapsWithSole [.Subscript a b pos'] e pos.line X.env = pure false := by rfl) (hw : swappedStores [.Subscript a b pos'] e X.env = pure none := by rfl)
    (h1 : (assignEach [.Subscript a b pos'] X.env).map (·.2) = [assign (.Subscript a b pos') X.env] := by rfl) : DS X ρ (.Assign [.Subscript a b pos'] e pos) (.nx (ρ3.set i (.o (.dn X.w (putN kvs k y))))) := fun F Z B H σ D kk q => by
  obtain ⟨ks, rfl⟩ := ht
  -- the store, by values
  have hp : PSet X (fun o iv v H Q => ∃ a ka xs, o = .ref a ∧ iv = .ref ka ∧ H a = some (dnHO X.w a xs) ∧ (∀ x ∈ xs, Dp X.K H (.ref x.2.1) x.1.data ∧ x.1.depth ≤ 8) ∧ (xs.map (·.1)).Nodup ∧ xs.length ≤ 1000000 ∧ Dp X.K H (.ref ka) (NestedKey.tup ks).data ∧
      ∀ u, RelV v u → Q (upd H a (dnHO X.w a (storedH xs (.tup ks) ka u)))) := by
    rintro pins s σ H o iv v ov ivv u Q I ro ri rv ⟨a, ka, xs, rfl, rfl, g1, g2, g3, g4, g5, g6⟩
    cases ro; cases ri
    exact dn_set (v := v) hu I g1 g2 g3 g4 g5 hd fun s' I' => ⟨_, I', g6 u rv⟩
  refine ⟨_, ps_asg pe_s (pg_sub pe_s pe_s hp ha) hs hw h1, hv F Z B H σ _ kk fun v B1 H1 k1 x1 w1 => ho F Z B1 H1 σ _ k1 fun o B2 H2 k2 x2 w2 => hk F Z B2 H2 σ _ k2 fun iv B3 H3 k3 x3 w3 => ?_⟩
  obtain ⟨v', as, g1, g2, g3⟩ := k3.ob (gS_some hs3)
  have w' : gV σ i = some o := w2
  rw [w'] at g1
  cases g1
  have dk : Dp X.K B3 iv (.tuple (NestedKey.datas ks)) := w3
  cases g2 with
  | @dn _ aa xs _ d1 d2 d3 d4 d5 =>
  have e3 : ∃ ka, iv = .ref ka := by cases dk; exact ⟨_, rfl⟩
  obtain ⟨ka, rfl⟩ := e3
  refine ⟨aa, ka, xs, rfl, rfl, d1, fun x hx => ⟨dp_mono k3.exB (nk_keys d5 x hx).1, (nk_keys d5 x hx).2⟩, d4, d3, dp_mono k3.exB dk, fun u ru => ?_⟩
  have hl : (storedH xs (.tup ks) ka u).length ≤ 1000000 := Nat.le_trans storedH_len (by rw [d5.length]; exact hz)
  refine q B3 _ σ (k3.turn (gS_some hs3) w' (.dn d1 d2 d3 d4 d5) (.dn upd_same d2 hl (storedH_nodup d4) (nk_put d5 dk hd ru (dp_mono (x2.trans x3) w1))) fun c hc => ?_) ((x1.trans x2).trans x3)
  rw [upd_ne fun z => hc (by rw [z]; exact List.mem_singleton.mpr rfl)]
end
end G

set_option Elab.async false
set_option linter.all false
set_option maxRecDepth 100000
set_option maxHeartbeats 4000000
/- enumerate of a tuple; sorted of a dict with tuple keys; dict comprehensions with tuple keys -/
namespace G
open PySem L2 PySem.Spec PyProof.Rows

/-! ### enumerate(tuple) -/
open PySem.AutoSeq1 (wpAny_loadPart') in
theorem enumT_new (l : Addr) (items : Array Value) (n : Nat) (dct : Option Addr) (sl : Array (Option Value)) :
    Meets (Builtin.«enumerate.__new__» ⟨[.type "enumerate", .ref l], []⟩) (fun _ R s => s.heap.get? l = some { cls := .type "tuple", dict := dct, data := .seq items n, slots := sl } ∧
      R (.ok (.ret (.ref (s.heap.push { cls := .type "tuple_iterator", data := .fields #[.ref l, .int 0 0] }).objs.size)))
        { s with heap := (s.heap.push { cls := .type "tuple_iterator", data := .fields #[.ref l, .int 0 0] }).push { cls := .type "enumerate", data := .fields #[.none, .bool false, .ref s.heap.objs.size, rawInt 0, .none, .none] } }) :=
  .of_wp fun prog w A R s h => by
    obtain ⟨hp, g, d, tk, os⟩ := s
    obtain ⟨hl, h⟩ := h
    have hsub := sub_enumerate
    have hT : Heap.IsTuple (Shared.heap ⟨hp, g, d, tk, os⟩) l items := ⟨_, hl, rfl, n, rfl⟩
    wp_walk using wpAny_loadPart' hl
    refine wpAny_stack_any fun st => wpAny_pure ?_
    split
    · rename_i c _ _ _ _ _
      cases (c == Value.type "enumerate")
      · wp_walk using wpAny_loadPart' hl, wpAny_pyIter_tuple hT
        exact ⟨_, rfl, h⟩
      · wp_walk using wpAny_loadPart' hl, wpAny_pyIter_tuple hT
        exact ⟨_, rfl, h⟩
    · wp_walk using wpAny_loadPart' hl, wpAny_pyIter_tuple hT
      exact ⟨_, rfl, h⟩
theorem call_enumT {prog : Program} {w : World} {A : Around} {E : Value → Shared → Prop} {s : Shared} {l : Addr} {items : Array Value} {Q : Value → Shared → Prop} (hT : IsTup s.heap l items)
    (h : ∀ h', IsEnum h' (s.heap.objs.size + 1) s.heap.objs.size 0 .none → h'.IsTupleIter s.heap.objs.size l 0 → (∀ b o, s.heap.get? b = some o → h'.get? b = some o) → Q (.ref (s.heap.objs.size + 1)) { s with heap := h' }) :
    wpAny (model prog w) A (call (.type "enumerate") [.ref l]) Q E s := by
  obtain ⟨⟨c, dct, dt, sl⟩, hl, hc, n, hd⟩ := hT
  replace hc : c = .type "tuple" := hc
  replace hd : dt = .seq items n := hd
  subst hc hd
  refine callType_new F.called_enumerate (by decide) (F.typeCall_enumerate_1 _) (F.newCall_enumerate_1 _) (fun obj => F.args_object_init_2 obj _) F.entry_enumerate_new (enumT_new l items n dct sl) ⟨hl, ?_⟩
  have hz : (s.heap.push { cls := .type "tuple_iterator", data := .fields #[.ref l, .int 0 0] }).objs.size = s.heap.objs.size + 1 := Heap.size_push ..
  show _ ∧ _
  rw [hz]
  have he : IsEnum ((s.heap.push { cls := .type "tuple_iterator", data := .fields #[.ref l, .int 0 0] }).push { cls := .type "enumerate", data := .fields #[.none, .bool false, .ref s.heap.objs.size, rawInt 0, .none, .none] })
      (s.heap.objs.size + 1) s.heap.objs.size 0 .none := by
    have q := Heap.get?_push_size (s.heap.push { cls := .type "tuple_iterator", data := .fields #[.ref l, .int 0 0] }) (o := { cls := .type "enumerate", data := .fields #[.none, .bool false, .ref s.heap.objs.size, rawInt 0, .none, .none] }) rfl
    rw [hz] at q
    exact q
  exact ⟨⟨_, he, rfl⟩, h _ he ⟨_, Heap.get?_push_of_some _ (Heap.get?_push_size _ rfl), rfl, rfl⟩ fun b o x => Heap.get?_push_of_some _ (Heap.get?_push_of_some _ x)⟩
/-- the tuple at a, each item in a new pair -/
def ItEt (K : PySem.W.Frag) (a : Addr) : It :=
  ⟨fun i H => ∃ (xs : List V) (x : V), SqT K H a xs ∧ xs[i]? = some x, fun i H v H' => ∃ T x o, v = .ref T ∧ H T = none ∧ H' = upd H T (.frz o (.tup [.int (i : Nat), x])) ∧ o.dict = none ∧ o.cls = .type "tuple" ∧ ∀ xs, SqT K H a xs → xs[i]? = some x, fun i H => ∃ xs : List V, SqT K H a xs ∧ xs.length = i⟩
theorem turn_enumT {P : Program} {w : World} {K : PySem.W.Frag} {elts : List Expr} {kk : Nat} {tpos : Pos} (a e it : Addr) :
    Turn P w K (.Tuple elts kk tpos) (ItEt K a) [e, it] e (fun i h => (∃ old, IsEnum h e it ((i : Nat) : Int) old) ∧ h.IsTupleIter it a i ∧ e ≠ it) where
  mem := by simp
  obj := by
    rintro i h ⟨⟨old, he⟩, ⟨o, ho, hc, hd⟩, _⟩ b hb
    rcases (show b = e ∨ b = it by simpa using hb) with z | z
    · rw [z]; exact ⟨_, he, fun v q => nomatch q⟩
    · rw [z]; exact ⟨o, ho, fun v q => by rw [hd] at q; cases q⟩
  keep := by
    rintro i h h' ⟨⟨old, he⟩, hi, hne⟩ k
    exact ⟨⟨old, k e (by simp) _ he⟩, hi.at fun o q => k it (by simp) o q, hne⟩
  item := by
    intro X hP hw hK hc i pins s σ H E I hf st hg
    subst hP hw hK
    obtain ⟨⟨old, he⟩, hit, hne⟩ := st
    obtain ⟨xs, x, hq, hx⟩ := hg
    obtain ⟨its, rv, p, hz⟩ := I.tuple hq
    obtain ⟨u, hu, ru⟩ := rv.get hx
    have hel : e < s.heap.objs.size := Heap.lt_size he
    have hil : it < s.heap.objs.size := by obtain ⟨_, q, _⟩ := hit; exact Heap.lt_size q
    have nai : a ≠ it := by
      intro z
      obtain ⟨o1, q1, c1, _⟩ := p
      obtain ⟨o2, q2, c2, _⟩ := hit
      rw [z, q2] at q1
      cases q1
      rw [c2] at c1
      exact absurd (Value.type.inj c1) (by decide)
    have nea : e ≠ a := by
      intro z
      obtain ⟨o1, q1, c1, _⟩ := p
      rw [← z, show s.heap.get? e = _ from he] at q1
      cases q1
      exact absurd (Value.type.inj c1) (by decide)
    have hlt : i < its.toArray.size := by
      rw [List.size_toArray]
      exact (List.getElem?_eq_some_iff.mp hu).1
    refine wpAny_pyNext_enum_itemC (fp := [it, a]) (Draws.tuple (A := X.A.in1) (I.ok.hd hc) it a nai its.toArray) he ⟨hit, p⟩ hlt hne (by simp [hne, nea]) ?_
    intro y h' tk hy ho hst hT hsz hk
    have eyu : y = u := by
      have q : its[i]? = some y := by simpa using hy
      rw [hu] at q; exact (Option.some.inj q).symm
    subst eyu
    refine ⟨_, rfl, wpAny_letOwnedTupleGo_enum (s := { s with heap := h', toks := tk + 1 }) ho ?_⟩
    intro h'' he' sb
    have hT2 : h''.get? s.heap.objs.size = some { cls := .type "tuple", data := .seq #[.int i tk, y] } := (sb.2 _ (Nat.ne_of_gt hel)).trans hT
    have new : ObjOk X.prog X.w (upd H s.heap.objs.size (.frz { cls := .type "tuple", data := .seq #[.int i tk, y] } (.tup [.int (i : Nat), x]))) h'' s.heap.objs.size (.frz { cls := .type "tuple", data := .seq #[.int i tk, y] } (.tup [.int (i : Nat), x])) :=
      ⟨hT2, by show 2 ≤ sizeLine; decide, [.int i tk, y], .cons ⟨_, rfl⟩ (.cons ru .nil), ⟨_, hT2, rfl, _, rfl⟩⟩
    have I1 : Inv X pins σ (upd H s.heap.objs.size (.frz { cls := .type "tuple", data := .seq #[.int i tk, y] } (.tup [.int (i : Nat), x]))) { s with heap := h'', toks := tk + 1 } :=
      I.turnedNew (ch := [e, it]) (fun b ob hb q => (sb.2 b (fun z => hb (by simp [z]))).trans (hk b ob (fun z => hb (by simp [z])) (fun z => hb (by simp [z])) q)) hf (Nat.le_refl _) new
    refine ⟨.ref s.heap.objs.size, _, I1, rfl, ⟨_, x, _, rfl, I.hok.fresh (Nat.le_refl _), rfl, rfl, rfl, fun ys hy => by rw [I.tuple_inj hy hq]; exact hx⟩, ⟨⟨y, ?_⟩, hst.1.at fun o q => (sb.2 it (Ne.symm hne)).trans q, hne⟩, ?_⟩
    · have e1 : ((i + 1 : Nat) : Int) = (i : Int) + 1 := by omega
      rw [e1]; exact he'
    · intro b hb
      have hb' : b < s.heap.objs.size := by
        rcases (show b = e ∨ b = it by simpa using hb) with z | z
        · rw [z]; exact hel
        · rw [z]; exact hil
      rw [upd_ne (Nat.ne_of_lt hb')]
      exact (hf b hb).1
  done := by
    intro X hP hw hK hc i pins s σ H E I hf st hg
    subst hP hw hK
    obtain ⟨⟨old, he⟩, hit, hne⟩ := st
    obtain ⟨xs, hq, hx⟩ := hg
    obtain ⟨its, rv, p, hz⟩ := I.tuple hq
    have nai : a ≠ it := by
      intro z
      obtain ⟨o1, q1, c1, _⟩ := p
      obtain ⟨o2, q2, c2, _⟩ := hit
      rw [z, q2] at q1
      cases q1
      rw [c2] at c1
      exact absurd (Value.type.inj c1) (by decide)
    obtain ⟨f0, f1, f2, f3, f4, f5⟩ := hf it (by simp)
    have hl := rv.length
    have D := Draws.tuple (prog := X.prog) (w := X.w) (A := X.A.in1) (I.ok.hd hc) it a nai its.toArray
    have hlen : i = its.toArray.size := by rw [List.size_toArray, ← hl, hx]
    exact wpAny_pyNext_enum_endD D he (by rw [← hlen]; exact ⟨hit, p⟩) fun h' eb => ⟨rfl, I.turned (t' := s.toks) (fun b o hb q => eb b o hb q) f0 f1 f3 f4 f5⟩
  self := by
    rintro A i s Q E ⟨⟨_, he⟩, _⟩ h
    exact wpAny_pyIter_enum he h
def iEnumT (K : PySem.W.Frag) (ta : TA) : TI := fun σ H R => ta σ H fun vs H1 => ∃ a xs, vs = [.ref a] ∧ SqT K H1 a xs ∧ R (ItEt K a) H1
theorem pi_enumT {X : Cx} {e : Expr} {ta : TA} {p pos tpos : Pos} {elts : List Expr} {kk : Nat} (hg : Gl X "enumerate") (hm : X.mg "enumerate" = none) (ha : PA X [e] ta) (hs : starEach [e] X.env = [(false, eval e X.env)] := by rfl) :
    PI X (.Tuple elts kk tpos) (.Call (.Name "enumerate" p) [e] [] pos) (iEnumT X.K ta) := by
  constructor
  intro pins s σ H R I h
  refine Call_ (ld_blt I hg hm boot_enumerate (PyProof.Rows.callWith_type1 (thn (ha.run pos pins s σ H _ I h) ?_) hs rfl))
  rintro us s1 ⟨vs, H1, I1, r1, a, xs, ex, hq, q⟩
  subst ex
  cases r1 with
  | cons r rr =>
    cases rr
    cases r
    obtain ⟨its, rv, p', hz⟩ := I1.tuple hq
    refine call_enumT p' fun h' he hit hk => wpAny_pyIter_enum he ?_
    have I2 : Inv X pins σ H1 { s1 with heap := h' } := I1.kept (t' := s1.toks) hk
    refine ⟨s1.heap.objs.size + 1, [s1.heap.objs.size + 1, s1.heap.objs.size], _, _, H1, rfl, I2, turn_enumT a (s1.heap.objs.size + 1) s1.heap.objs.size, ⟨⟨.none, he⟩, hit, Nat.succ_ne_self _⟩, fun b hb => ?_, q⟩
    have hle : s1.heap.objs.size ≤ b := by
      rcases (show b = s1.heap.objs.size + 1 ∨ b = s1.heap.objs.size by simpa using hb) with z | z
      · rw [z]; exact Nat.le_add_right _ _
      · rw [z]; exact Nat.le_refl _
    exact I1.fpOk hle (I1.hok.fresh hle)
/-- a new pair of the i-th of xs and the i-th of ys, no dict at it -/
def YPairN (xs ys : Nat → Option V) : Nat → Hp → V → Hp → Prop := fun i H v H' => ∃ T x y o, v = .ref T ∧ H T = none ∧ H' = upd H T (.frz o (.tup [x, y])) ∧ o.dict = none ∧ o.cls = .type "tuple" ∧ xs i = some x ∧ ys i = some y
theorem walk_enumT {K : PySem.W.Frag} {a : Addr} {xs : List V} : Walk (ItEt K a) xs.length (fun H => SqT K H a xs) (YPairN (fun i => some (.int (i : Nat))) (fun i => xs[i]?)) := by
  refine ⟨fun i _ hi q => ⟨xs, xs[i], q, by simp [hi]⟩, fun _ q => ⟨xs, q, rfl⟩, ?_⟩
  rintro i H v H' _ q ⟨T, x, o, h1, h2, h3, h5, h6, h4⟩
  exact ⟨T, .int (i : Nat), x, o, h1, h2, h3, h5, h6, rfl, h4 xs q⟩
/-- the pairs of place and item -/
def pairsD (xs : List PyData) : List PyData := (List.range xs.length).map fun (i : Nat) => .tuple [.int (i : Int), xs.getD i .none]
theorem pairsD_at {xs : List PyData} {i : Nat} {x : PyData} (h : xs[i]? = some x) : (pairsD xs)[i]? = some (.tuple [.int (i : Int), x]) := by
  have hi : i < xs.length := (List.getElem?_eq_some_iff.mp h).1
  unfold pairsD
  rw [List.getElem?_map, List.getElem?_range hi]
  show some (PyData.tuple [.int (i : Int), xs.getD i .none]) = _
  rw [List.getD_eq_getElem?_getD, h]; rfl
theorem pairsD_len {xs : List PyData} : (pairsD xs).length = xs.length := by unfold pairsD; simp
theorem di_enumT {X : Cx} {ρ ρ1 : Env'} {e : Expr} {p pos tpos : Pos} {elts : List Expr} {kk : Nat} {xs : List PyData} (hm : X.mg "enumerate" = none) (h : DE X ρ e (.d (.tuple xs)) ρ1) (hg : Gl X "enumerate" := by rfl) (hs : starEach [e] X.env = [(false, eval e X.env)] := by rfl)
    (he : starEach [e] X.env = (false, eval e X.env) :: starEach [] X.env := by rfl) : DI X ρ (.Tuple elts kk tpos) (.Call (.Name "enumerate" p) [e] [] pos) (pairsD xs) ρ1 := fun F Z B H σ Q k q =>
  ⟨_, pi_enumT hg hm (pa_cons pe_s pa_nil he) hs, h F Z B H σ _ k fun v B1 H1 k1 x1 w => by
    obtain ⟨a, vs, rfl, s, s', t⟩ := tup_at k1 w
    refine ⟨a, vs, rfl, s, q _ _ _ _ B1 H1 k1 x1 (by rw [pairsD_len]; exact DpAll.length t) walk_enumT (fun B2 H2 y1 y2 => s'.1.imp (y1.trans y2).rd id) ?_⟩
    rintro F2 Z2 B2 H2 σ2 ρ2 i v H3 k2 y2 hi ⟨T, x, y, o, rfl, hT, rfl, od, oc, hx, hy⟩
    obtain rfl : V.int (i : Nat) = x := Option.some.inj hx
    obtain ⟨d, h1, h2⟩ := DpAll.get t hy
    have n := k2.fresh hT
    exact ⟨_, _, pairsD_at h1, k2.new hT _, Sub.new _ n.2.1, .tup (.inl (.inr ⟨o, upd_same⟩)) ⟨o, _, upd_same, od, oc⟩ (dpAll_mono (Sub.new _ n.2.1) (.cons (.int _) (.cons (dp_mono y2 h2) .nil)))⟩⟩

/-! ### sorted(d), d a dict whose keys are tuples -/
open PySem.W in
def rSortDn (K : PySem.W.Frag) (w : World) : List V → Hp → VK → Prop := fun vs H Q => ∃ a xs, vs = [.ref a] ∧ H a = some (dnHO w a xs) ∧ (a == sysModules) = false ∧ xs.length ≤ 1000000 ∧ (∀ x ∈ xs, Dp K H (.ref x.2.1) x.1.data ∧ x.1.depth ≤ 8) ∧
  AllAlike (xs.map fun x => x.1.data) ∧ Sortable (xs.map fun x => x.1.data) ∧
  ∀ p, H p = none → Q (.ref p) (upd H p (.lst ((xs.mergeSort (dataLe false fun x => x.1.data)).map fun x => .ref x.2.1)))
theorem nk_depth : ∀ k : NestedKey, k.data.depth = k.depth := by
  have both : ∀ n : Nat, (∀ k : NestedKey, sizeOf k ≤ n → k.data.depth = k.depth) ∧ (∀ ks : List NestedKey, sizeOf ks ≤ n → PyData.depthAll (NestedKey.datas ks) = NestedKey.depthAll ks) := by
    intro n
    induction n with
    | zero =>
      refine ⟨fun k h => ?_, fun ks h => ?_⟩
      · cases k <;> simp at h
      · cases ks <;> simp at h
    | succ n ih =>
      refine ⟨fun k h => ?_, fun ks h => ?_⟩
      · cases k with
        | none => simp [NestedKey.data, PyData.depth, NestedKey.depth]
        | num i => simp [NestedKey.data, PyData.depth, NestedKey.depth]
        | text x => simp [NestedKey.data, PyData.depth, NestedKey.depth]
        | tup ks =>
          simp only [NestedKey.data, PyData.depth, NestedKey.depth]
          rw [ih.2 ks (by simp at h; omega)]
      · cases ks with
        | nil => simp [NestedKey.datas, PyData.depthAll, NestedKey.depthAll]
        | cons k ks =>
          simp only [NestedKey.datas, PyData.depthAll, NestedKey.depthAll]
          rw [ih.1 k (by simp at h; omega), ih.2 ks (by simp at h; omega)]
  exact fun k => (both (sizeOf k)).1 k (Nat.le_refl _)
section
variable {X : Cx}
open PySem.W in
theorem call_sortDn (hc : X.calm = true) (hu : X.A.units + 100 < cLine) : CallR X (.builtin "sorted") (rSortDn X.K X.w) := by
  intro pins s σ H vs us Q I r h
  obtain ⟨a, xs, rfl, hH, hsy, hz, hk, hal, hso, q⟩ := h
  obtain ⟨u, rfl, rv⟩ := vals1 r
  cases rv
  obtain ⟨⟨o, es, ep, g1, g2, g3, g4⟩, _, _⟩ := I.hok a _ hH
  have raw : s.heap.DictRaw a es ep := ⟨o, g1, g2, g3⟩
  have esz : es.size = xs.length := by
    have e := congrArg List.length g4
    simpa using e
  have hsl : sizeLine = 16777216 := sizeLine_eq
  refine Calls.call_function_entry PyProof.Rows.kind_sorted PyProof.Rows.plain_sorted PyProof.Rows.entry_sorted (PyProof.Rows.args_sorted1 _) ?_
  unfold Builtin.«sorted»
  refine wpAny_bind (m := checkCount "sorted" 1 1 _) (wpAny_pure ?_)
  refine wpAny_bind (kdu_collect (A := X.A.in1) (KdlSrc.rawDict hsy) (I.ok.hd hc) raw (by omega) ?_)
  intro h' tk acc hkeep hacc
  have hlen : acc.toList.length = xs.length := by rw [Array.length_toList, hacc.1, esz]
  have eacc : acc.toList = xs.map fun x => Value.ref x.2.1 := by
    apply List.ext_getElem?
    intro j
    by_cases hj : j < xs.length
    · have hja : j < acc.toList.length := by omega
      have e1 : acc.toList[j]? = some acc.toList[j] := List.getElem?_eq_getElem hja
      obtain ⟨hi, e2⟩ := hacc.2 j acc.toList[j] (by rw [← Array.getElem?_toList]; exact e1)
      have e3 : es.toList[j]? = some es[j] := by rw [Array.getElem?_toList]; simp [hi]
      rw [g4, List.getElem?_map, List.getElem?_eq_getElem hj] at e3
      have e4 := (Option.some.inj e3).symm
      rw [e1, e2, e4, List.getElem?_map, List.getElem?_eq_getElem hj]
      rfl
    · rw [List.getElem?_eq_none (by omega), List.getElem?_eq_none (by rw [List.length_map]; omega)]
  have I1 : Inv X pins σ H { s with heap := h', toks := tk } := I.kept hkeep
  refine wpAny_bind (wpAny_newList ?_ (by rw [hlen]; omega))
  show wpAny _ _ _ _ _ { s with heap := h'.push (seqObj "list" acc.toList.toArray 0), toks := tk }
  have hoL : (h'.push (seqObj "list" acc.toList.toArray 0)).get? h'.objs.size = some (seqObj "list" acc.toList.toArray 0) := Heap.get?_push_size _ rfl
  have each : ∀ (R : Value → NestedKey × Addr × Value → Prop) (xs : List (NestedKey × Addr × Value)), (∀ x ∈ xs, R (.ref x.2.1) x) → EachIs R (xs.map fun x => Value.ref x.2.1) xs := by
    intro R xs
    induction xs with
    | nil => intro _; exact .nil
    | cons x xs ih => intro h; exact .cons (h x List.mem_cons_self) (ih fun y hy => h y (List.mem_cons_of_mem _ hy))
  have rd : ∀ x ∈ xs, Reads (h'.push (seqObj "list" acc.toList.toArray 0)) (.ref x.2.1) x.1.data [] := by
    intro x hx
    obtain ⟨as, rd⟩ := Dp.reads I1 _ _ (.ref x.2.1) ((hk x hx).1.l2 (nk_noDict x.1)) rfl
    have e := (nested_of_reads _ _ _ rd).2
    subst e
    exact PyProof.Rows.Reads.keeps (fun b o e => Heap.get?_push_of_some _ e) rd
  refine wpAny_bind (wpAny_holding (list_sort_data (s := { s with heap := h'.push (seqObj "list" acc.toList.toArray 0), toks := tk }) (A := X.A.in1) (enc := fun x : NestedKey × Addr × Value => x.1.data) (bs := xs) (R := fun v x => v = .ref x.2.1) hoL ?_ ?_ hal hso (by omega) ?_ ?_))
  · rw [eacc]; exact each _ xs fun _ _ => rfl
  · have E := each (fun v x => ∃ as, Reads (h'.push (seqObj "list" acc.toList.toArray 0)) v x.1.data as ∧ h'.objs.size ∉ as) xs fun x hx => ⟨[], rd x hx, by simp⟩
    rw [← eacc] at E
    exact E
  · intro x hx
    have := (hk x hx).2
    rw [nk_depth]
    show X.A.units + 1 + 1 + x.1.depth < cLine
    omega
  · intro out h1 h2
    obtain ⟨e', he'⟩ := PyProof.Rows.sortedHeap_at (vs := acc.toList) (out := out.toArray) hoL
    have vo : ∀ {out : List Value} {bs : List (NestedKey × Addr × Value)}, EachIs (fun v x => v = .ref x.2.1) out bs → Vals (bs.map fun x => V.ref x.2.1) out := by
      intro out bs h
      induction h with
      | nil => exact .nil
      | cons h t ih => exact .cons h ih
    have hl2 : ((xs.mergeSort (dataLe false fun x => x.1.data)).map fun x => V.ref x.2.1).length ≤ sizeLine := by
      rw [List.length_map, List.length_mergeSort]; omega
    refine wpAny_pure ⟨_, rfl, .ref h'.objs.size, upd H h'.objs.size (.lst ((xs.mergeSort (dataLe false fun x => x.1.data)).map fun x => .ref x.2.1)), I1.laid (t' := tk) (fun b u e => ?_) (Nat.le_refl _) ⟨hl2, out, e', vo h2, he'⟩, rfl, q _ (I1.hok.fresh (Nat.le_refl _))⟩
    have hb : b < h'.objs.size := Heap.lt_size e
    rw [PyProof.Rows.sortedHeap_old (Nat.ne_of_lt hb) (by rw [Heap.size_push]; exact Nat.lt_succ_of_lt hb)]
    exact Heap.get?_push_of_some _ e
end
section
variable {X : Cx} {ρ ρ1 : Env'} {e : Expr} {pos p : Pos}
open PySem.W in
theorem dl_sortDn {i : Nat} {kvs : List (NestedKey × PyData)} (hc : X.calm = true) (hu : X.A.units + 100 < cLine) (hal : AllAlike (kvs.map fun x => x.1.data)) (hso : Sortable (kvs.map fun x => x.1.data)) (hm : X.mg "sorted" = none) (h : DE X ρ e (.o i) ρ1) (hs : ρ1[i]? = some (.o (.dn X.w kvs)) := by rfl) (hg : Gl X "sorted" := by rfl)
    (he : starEach [e] X.env = (false, eval e X.env) :: starEach [] X.env := by rfl) (hpl : (backTo pos (starEach [] X.env)).any (·.1) = false := by rfl) : DL X ρ (.Call (.Name "sorted" p) [e] [] pos) (sortD (kvs.map fun x => x.1.data)) ρ1 :=
  dl_cB (call_sortDn hc hu) (fun F Z B H σ Q v k w q => by
    obtain ⟨v', as, g1, g2, _⟩ := k.ob (gS_some hs)
    have w' : gV σ i = some v := w
    rw [w'] at g1
    cases g1
    cases g2 with
    | @dn _ a xs _ d1 d2 d3 d4 d5 =>
    have ef : (xs.map fun x => x.1.data) = kvs.map fun x => x.1.data := by
      have q1 := congrArg (List.map NestedKey.data) (nk_fst d5)
      rw [List.map_map, List.map_map] at q1
      exact q1
    have back : ∀ l : List (NestedKey × Addr × Value), (∀ x ∈ l, Dp X.K B (.ref x.2.1) x.1.data) → DpAll X.K B (l.map fun x => .ref x.2.1) (l.map fun x => x.1.data) := by
      intro l
      induction l with
      | nil => intro _; exact .nil
      | cons x l ih => intro hl; exact .cons (hl x List.mem_cons_self) (ih fun y hy => hl y (List.mem_cons_of_mem _ hy))
    refine ⟨a, xs, rfl, d1, d2, d3, fun x hx => ⟨dp_mono k.exB (nk_keys d5 x hx).1, (nk_keys d5 x hx).2⟩, by rw [ef]; exact hal, by rw [ef]; exact hso, fun l hl => q l _ B _ (k.loose hl _) (Sub.refl B) (k.laid hl _) upd_same ?_⟩
    have e2 : sortD (kvs.map fun x => x.1.data) = (xs.mergeSort (dataLe false fun x => x.1.data)).map fun x => x.1.data := by
      unfold sortD
      rw [← ef]
      exact (sort_maps (r := dataLe false fun x : NestedKey × Addr × Value => x.1.data) (s := dataLe false id) (fun x => x.1.data) (fun _ _ _ _ => rfl)).symm
    rw [e2]
    exact back _ fun x hx => (nk_keys d5 x ((List.mergeSort_perm _ _).mem_iff.mp hx)).1) PyProof.Rows.boot_sorted hm hg h (by decide) (by decide) he hpl
end
end G

set_option Elab.async false
set_option linter.all false
set_option maxRecDepth 100000
set_option maxHeartbeats 4000000
/- dict comprehensions whose keys are tuples -/
namespace G
open PySem L2 PySem.Spec PyProof.Rows

section
variable {X : Cx} {pins : List (Addr × Obj)} {σ : L2.St} {H : Hp} {s : Shared} {a ka : Addr} {xs : List (NestedKey × Addr × Value)} {k : NestedKey}
theorem dn_put {u : Value} {A' : Value → Shared → Prop} {Q : Unit → Shared → Prop} (hu : X.A.units + 100 < cLine) (I : Inv X pins σ H s) (h : H a = some (dnHO X.w a xs)) (hk : ∀ x ∈ xs, Dp X.K H (.ref x.2.1) x.1.data ∧ x.1.depth ≤ 8) (nd : (xs.map (·.1)).Nodup)
    (hz : xs.length ≤ 1000000) (hkey : Dp X.K H (.ref ka) k.data) (hd : k.depth ≤ 8) (q : ∀ s', Inv X pins σ (upd H a (dnHO X.w a (storedH xs k ka u))) s' → Q () s') : wpAny (model X.prog X.w) X.A (dictSet a (.ref ka) u) Q A' s := by
  refine wpAny_dictSet_heap (knd := nestedKind X.prog X.w) (by show X.A.units + 8 < cLine; omega) (key_is I hkey hd) (dn_of I h hk nd) (fun h' m' hs => ?_) (by rw [sizeLine_eq]; omega)
  obtain ⟨o, ho⟩ : ∃ o, h'.get? a = some o := by obtain ⟨o, _, _, ho, _⟩ := m'; exact ⟨o, ho⟩
  exact q _ (I.write (e := a) (o := dnHO X.w a (storedH xs k ka u)) (by rw [h]; trivial) (.inl rfl) (fun b u hb e => (hs.2 b hb).trans e) ⟨o, ho⟩ (dn_ok m'))
end

/-- the reading of {kx: vx for tg in iter if ..} -/
def tDcN (K : PySem.W.Frag) (w : World) (wi : TI) (g : TG) (tt : TT) (tk tv : TE) (vs : List Nat) : TE := fun σ H Q => wi σ H fun J H1 => ∀ D, H1 D = none → (D == sysModules) = false →
  ∃ W : Nat → Nat → Hp → Prop, (∃ m, W 0 m (upd H1 D (dnHO w D []))) ∧ ∀ i m H, W i m H → (J.stop i H ∧ Q (.ref D) H) ∨
    (J.go i H ∧ ∃ Nx : Hp → Prop, (∀ H', Nx H' → ∃ m', m' < m ∧ W (i + 1) m' H') ∧ ∀ x H', J.yld i H x H' → g x (wipe σ vs) H' fun σ2 H2 => wipe σ2 vs = wipe σ vs ∧ tt σ2 H2 fun b H3 =>
      if b = true then tk σ2 H3 fun y H4 => tv σ2 H4 fun z H5 => ∃ xs k ka, y = .ref ka ∧ H5 D = some (dnHO w D xs) ∧ (∀ x ∈ xs, Dp K H5 (.ref x.2.1) x.1.data ∧ x.1.depth ≤ 8) ∧ (xs.map (·.1)).Nodup ∧ xs.length ≤ 1000000 ∧ Dp K H5 (.ref ka) k.data ∧ k.depth ≤ 8 ∧
        ∀ u, RelV z u → Nx (upd H5 D (dnHO w D (storedH xs k ka u))) else Nx H3)
section
variable {X : Cx}
theorem dcN_core {pins : List (Addr × Obj)} {s : Shared} {σ : L2.St} {H : Hp} {Q : VK} {use : Option (Value → Sem Unit)} {Qf : Value → Shared → Prop} {kx vx tg iter : Expr} {ifs : List Expr} {scope : Scope} {own : List (Str × Nat)} {pos pos' : Pos} {wi : TI} {g : TG} {tt : TT} {tk tv : TE} (hunits : X.A.units + 100 < cLine) (hc : X.calm = true) (hN : X.N.Nodup) (I : Inv X pins σ H s) (hi : PI X tg iter wi) (ok : BlkOk X.N X.env.scope scope own)
    (hg : Blk X scope fun Y => PG Y tg g) (ht : Blk X scope fun Y => PTs Y ifs tt) (hk : Blk X scope fun Y => PE Y kx tk) (he : Blk X scope fun Y => PE Y vx tv) (hs : ∀ x, foldedSetIterable iter X.env x = pure x)
    (h : tDcN X.K X.w wi g tt tk tv (own.map (·.2)) σ H Q)
    (hRR : ∀ D C s' m H', Inv X pins σ H' s' → Q (.ref D) H' → s'.heap.Ns C m → FpOk X pins H' C → compPost (model X.prog X.w) X.A X.xe use Qf (.ref D) C (.ok .next) s') :
    wpAny (model X.prog X.w) X.A (comprehension (.DictComp kx vx [⟨tg, iter, ifs, 0⟩] scope pos) scope X.env pos' (newObj (.type "dict") (.dict #[])) false (eval iter X.env) use) Qf X.xe s := by
  have free : ∀ y ∈ scope.names, y.2 = .free → ∃ c, X.env.cells.lookup y.1 = some c := by
    intro y hy e
    exact I.ok.has _ (ok.free y hy e)
  refine wpAny_comprehension_free (use := use) rfl hs (closure_ok free) ok.kind (fun y hy e => by rw [ok.uniq y hy, e]) (thn (hi.run pins s σ H _ I h) fun xv s1 hx => thn hx ?_)
  rintro itv s2 ⟨it, fp, tn, J, H2, e, I2, T, st2, f2, q⟩
  subst e
  refine wpAny_newObj_type (newEnv_comp ?_)
  generalize hD : s2.heap.objs.size = D
  have hDn : H2 D = none := I2.hok.fresh (Nat.le_of_eq hD)
  have hDs : (D == sysModules) = false := by
    rw [← hD]
    exact beq_eq_false_iff_ne.mpr (Ne.symm (Nat.ne_of_lt I2.big))
  obtain ⟨W, ⟨m0, w0⟩, turn⟩ := q D hDn hDs
  generalize hs3 : ({ s2 with heap := s2.heap.push { cls := .type "dict", data := .dict #[] } } : Shared) = s3
  have I3 : Inv X pins σ (upd H2 D (dnHO X.w D [])) s3 := by
    rw [← hs3]
    refine I2.laid (t' := s2.toks) (fun b o e => Heap.get?_push_of_some _ e) (Nat.le_of_eq hD) ?_
    rw [← hD]
    exact dn_ok (P := X.prog) (Heap.DictOfH.new s2.heap)
  have h3 : s3.heap = s2.heap.push { cls := .type "dict", data := .dict #[] } := by rw [← hs3]
  have sz : ∀ b ∈ fp, b < s2.heap.objs.size := by
    intro b hb
    obtain ⟨o, e, _⟩ := T.obj _ _ st2 b hb
    exact Heap.lt_size e
  have f3 : ∀ b ∈ fp, FpOk X pins (upd H2 D (dnHO X.w D [])) b ∧ b < s3.heap.objs.size := by
    intro b hb
    have hlt := sz b hb
    refine ⟨⟨?_, (f2 b hb).2⟩, by rw [h3, Heap.size_push]; exact Nat.lt_succ_of_lt hlt⟩
    rw [upd_ne (by rw [← hD]; exact Nat.ne_of_lt hlt)]
    exact (f2 b hb).1
  have st3 : tn 0 s3.heap := T.keep _ _ _ st2 fun b _ o e => by rw [h3]; exact Heap.get?_push_of_some _ e
  have I4 := block_start I3 ok hN f3
  have pg := hg s3 (upd H2 D (dnHO X.w D [])) s3.heap.objs.size (cellsFrom (s3.heap.objs.size + 1) scope.names (cloFrom X.env.cells scope.names [])) fp
  have pt := ht s3 (upd H2 D (dnHO X.w D [])) s3.heap.objs.size (cellsFrom (s3.heap.objs.size + 1) scope.names (cloFrom X.env.cells scope.names [])) fp
  have pk := hk s3 (upd H2 D (dnHO X.w D [])) s3.heap.objs.size (cellsFrom (s3.heap.objs.size + 1) scope.names (cloFrom X.env.cells scope.names [])) fp
  have pv := he s3 (upd H2 D (dnHO X.w D [])) s3.heap.objs.size (cellsFrom (s3.heap.objs.size + 1) scope.names (cloFrom X.env.cells scope.names [])) fp
  generalize hce : compEnvC scope (cellsFrom (s3.heap.objs.size + 1) scope.names (cloFrom X.env.cells scope.names [])) s3.heap.objs.size X.env = ce at I4 pg pt pk pv
  have cL : ce.locals = s3.heap.objs.size := by subst hce; rfl
  generalize hH3 : upd H2 D (dnHO X.w D []) = H3 at I3 I4 pg pt pk pv w0 f3
  have nfp : ∀ b ∈ fp, H3 b = none := fun b hb => (f3 b hb).1.1
  generalize hs4 : ({ s3 with heap := pushCells (s3.heap.push { cls := .type "dict", data := .dict #[] }) scope.names } : Shared) = s4 at I4
  have st4 : tn 0 s4.heap := T.keep _ _ _ st3 fun b _ o e => by rw [← hs4]; exact pushCells_keeps _ _ _ _ (Heap.get?_push_of_some _ e)
  have stat : ∀ {σ' : L2.St} {H' : Hp} {s' : Shared}, Inv (X.blk s3 H3 scope ce fp) [] σ' H' s' → (∀ b ∈ fp, H' b = none) → ∀ b ∈ fp, FpOk (X.blk s3 H3 scope ce fp) [] H' b := by
    intro σ' H' s' I' hn b hb
    exact ⟨hn b hb, (I'.ok.exf b hb).1, I'.ok.exfs b hb, .inl hb, fun x c e => (I'.ok.exf b hb).2 x c e, fun p hp => absurd (show p ∈ ([] : List (Addr × Obj)) ++ [] from hp) (by simp)⟩
  have loop : codeAny (model X.prog X.w) X.A (.compLoop (.DictComp kx vx [⟨tg, iter, ifs, 0⟩] scope pos) 0 (.ref it) (.ref D) ce) (compPost (model X.prog X.w) X.A X.xe use Qf (.ref D) s3.heap.objs.size) s4 := by
    refine compLoop_anyD (fun n s' => ∃ i H', Inv (X.blk s3 H3 scope ce fp) [] (wipe σ (own.map (·.2))) H' s' ∧ tn i s'.heap ∧ (∀ b ∈ fp, H' b = none) ∧ W i n H') ?_ m0 ⟨0, H3, I4, st4, nfp, w0⟩
    rintro n s5 ⟨i, H5, I5, st5, n5, w5⟩
    rcases turn i n H5 w5 with ⟨stop, qq⟩ | ⟨go, Nx, hNx, step⟩
    · refine thnF (T.done (X.blk s3 H3 scope ce fp) rfl rfl rfl hc i [] s5 _ H5 (fun _ _ => False) I5 (stat I5 n5) st5 stop) ?_
      rintro r s6 ⟨hr, I6⟩
      subst hr
      have I7 : Inv X pins σ H5 s6 := I3.call' (ch := fp) I6.os I6.base I6.hok I6.bare fun b hb => ⟨(f3 b hb).1.2.2.2.1, (f3 b hb).1.2.1, (f3 b hb).1.2.2.2.2.1, (f3 b hb).1.2.2.2.2.2⟩
      have nC : H5 s3.heap.objs.size = none := by
        rw [← cL]
        exact I6.free
      obtain ⟨m, hn, _⟩ := I6.loc
      have hn' : s6.heap.Ns s3.heap.objs.size m := by rw [← cL]; exact hn
      exact hRR D s3.heap.objs.size s6 m H5 I7 qq hn' (I3.fpOk (Nat.le_refl _) nC)
    · refine thnF (T.item (X.blk s3 H3 scope ce fp) rfl rfl rfl hc i [] s5 _ H5 (fun _ _ => False) I5 (stat I5 n5) st5 go) ?_
      rintro r s6 ⟨u, hr, h6⟩
      subst hr
      refine thnF h6 ?_
      rintro _ s7 ⟨x, H7, I7, r7, y7, st7, n7⟩
      have I7' := I7.pinned (stat I7 n7) (T.obj _ _ st7)
      refine thnF (pg.run _ s7 _ H7 x u _ I7' r7 (step x H7 y7)) ?_
      rintro _ s8 ⟨σ8, H8, I8, hw8, q8⟩
      refine thnF (pt.run _ s8 σ8 H8 _ I8 q8) ?_
      rintro b s9 ⟨H9, I9, q9⟩
      have fin : ∀ {s' : Shared} {H' : Hp}, Inv (X.blk s3 H3 scope ce fp) ([] ++ pinsAt fp s7.heap) σ8 H' s' → Nx H' → ∃ m, m < n ∧ ∃ i H', Inv (X.blk s3 H3 scope ce fp) [] (wipe σ (own.map (·.2))) H' s' ∧ tn i s'.heap ∧ (∀ b ∈ fp, H' b = none) ∧ W i m H' := by
        intro s' H' I' nx
        obtain ⟨m', hm, w'⟩ := hNx H' nx
        have pin' : ∀ b ∈ fp, ∀ o, s7.heap.get? b = some o → s'.heap.get? b = some o ∧ H' b = none := by
          intro b hb o e
          have z := I'.pin (b, o) (List.mem_append_right _ (List.mem_append_right _ (mem_pinsAt hb e)))
          exact ⟨z.1, z.2.1⟩
        refine ⟨m', hm, i + 1, H', (I'.unpinned (pins := [])).weak (by rw [← hw8, wipe_length]) (fun j v e => ?_), T.keep _ _ _ st7 fun b hb o e => (pin' b hb o e).1, fun b hb => ?_, w'⟩
        · rw [← hw8] at e
          exact (wipe_some e).1
        · obtain ⟨o, e, _⟩ := T.obj _ _ st7 b hb
          exact (pin' b hb o e).2
      cases b with
      | false =>
        rw [if_neg (by decide)] at q9
        simp only [Bool.false_eq_true, if_false]
        exact fin I9 q9
      | true =>
        rw [if_pos rfl] at q9
        simp only [if_true]
        refine thnF (pk.run _ s9 σ8 H9 _ I9 q9) ?_
        rintro z s10 ⟨yk, H10, I10, r10, q10⟩
        refine thnF (pv.run _ s10 σ8 H10 _ I10 q10) ?_
        rintro z2 s11 ⟨yv, H11, I11, r11, xs, k, ka, ek, hD11, hkk, nd, hz, hkey, hdp, nx⟩
        subst ek
        have er : z = .ref ka := r10
        subst er
        exact dn_put (X := X.blk s3 H3 scope ce fp) hunits I11 hD11 hkk nd hz hkey hdp fun s12 I12 => fin I12 (nx _ r11)
  have fin := codeAny_compStart_dict loop (T.self X.A 0 _ _ _ st4 loop)
  rw [← hce] at fin
  exact fin
theorem pe_dcN {kx vx tg iter : Expr} {ifs : List Expr} {scope : Scope} {own : List (Str × Nat)} {pos : Pos} {wi : TI} {g : TG} {tt : TT} {tk tv : TE} (hunits : X.A.units + 100 < cLine) (hc : X.calm = true) (hN : X.N.Nodup) (hi : PI X tg iter wi) (ok : BlkOk X.N X.env.scope scope own)
    (hg : Blk X scope fun Y => PG Y tg g) (ht : Blk X scope fun Y => PTs Y ifs tt) (hk : Blk X scope fun Y => PE Y kx tk) (he : Blk X scope fun Y => PE Y vx tv) (hs : ∀ x, foldedSetIterable iter X.env x = pure x := by intro _; rfl) :
    PE X (.DictComp kx vx [⟨tg, iter, ifs, 0⟩] scope pos) (tDcN X.K X.w wi g tt tk tv (own.map (·.2))) := by
  constructor
  intro pins s σ H Q I h
  rw [arm_eval_DictComp]
  refine dcN_core hunits hc hN I hi ok hg ht hk he hs h fun D C s' m H' I' q hn f => ⟨m, hn, fun h'' sb => ?_⟩
  obtain ⟨f0, f1, f2, f3, f4, f5⟩ := f
  exact ⟨.ref D, H', I'.turned (t' := s'.toks) (fun b o hb e => (sb.2 b hb).trans e) f0 f1 f3 f4 f5, rfl, q⟩
/-- name = {..} on one line, the name a local -/
theorem ps_setDcN {i : Nat} {y : Str} {py spos : Pos} {kx vx tg iter : Expr} {ifs : List Expr} {scope : Scope} {own : List (Str × Nat)} {pos : Pos} {wi : TI} {g : TG} {tt : TT} {tk tv : TE} (hunits : X.A.units + 100 < cLine) (hc : X.calm = true) (hN : X.N.Nodup) (hy : X.N[i]? = some y) (hyl : X.env.scope.names.lookup y = some .local)
    (hsw : swapsWith (.DictComp kx vx [⟨tg, iter, ifs, 0⟩] scope pos) (some (.Name y py)) spos.line X.env = pure true) (hi : PI X tg iter wi) (ok : BlkOk X.N X.env.scope scope own)
    (hg : Blk X scope fun Y => PG Y tg g) (ht : Blk X scope fun Y => PTs Y ifs tt) (hk : Blk X scope fun Y => PE Y kx tk) (he : Blk X scope fun Y => PE Y vx tv) (hs : ∀ x, foldedSetIterable iter X.env x = pure x := by intro _; rfl) :
    PS X (.Assign [.Name y py] (.DictComp kx vx [⟨tg, iter, ifs, 0⟩] scope pos) spos) (tAsg (tDcN X.K X.w wi g tt tk tv (own.map (·.2))) (gName i)) := by
  refine ⟨fun pins s σ H D I h => ?_⟩
  rw [exec_Assign_Name_used _ _ _ _ hsw]
  refine wpAny_bind (wpAny_standAt (wpAny_bind ?_))
  show wpAny _ X.A (do let _ ← comprehension (.DictComp kx vx [⟨tg, iter, ifs, 0⟩] scope pos) scope X.env (firstIterPos [⟨tg, iter, ifs, 0⟩] pos) (newObj (.type "dict") (.dict #[])) false (eval iter X.env) (some (assign (.Name y py) X.env))) _ _ s
  have h : tDcN X.K X.w wi g tt tk tv (own.map (·.2)) σ H (fun x H1 => gName i x σ H1 D.nx) := h
  refine wpAny_bind (thn (dcN_core (Qf := fun _ s' => SP X pins D .next s') hunits hc hN I hi ok hg ht hk he hs h fun L C s' m H' I' q hn f => ?_) fun _ s' hq => wpAny_pure (wpAny_pure hq))
  show wpAny _ _ (assign (.Name y py) X.env (.ref L)) _ _ _
  refine wpAny_assign_Name (store_ok2 (v := V.ref L) I' hN hy (.inl hyl) rfl (fun s2 I2 ⟨a, sb, ha⟩ => ?_) (.inr hyl))
  obtain ⟨f0, f1, f2, f3, f4, f5⟩ := f
  have haC : C ≠ a := by
    rcases ha with z | z
    · rw [z]; exact f1
    · exact fun e => f4 y a z e.symm
  refine ⟨m, hn.sameBut sb haC, fun h3 sb3 => ?_⟩
  exact ⟨_, H', I2.turned (t' := s2.toks) (fun b o hb e => (sb3.2 b hb).trans e) f0 f1 f3 f4 f5, q⟩
end
end G

set_option Elab.async false
set_option linter.all false
set_option maxRecDepth 100000
set_option maxHeartbeats 4000000
/- dict comprehensions whose keys are tuples, on data -/
namespace G
open PySem L2 PySem.Spec PyProof.Rows

section
variable {X : Cx} {ρ ρ' ρ1 ρ2 ρ3 : Env'} {a b c e elt tg iter kx vx : Expr} {es ifs : List Expr} {pos p : Pos} {xs : List PyData}
/-- a new dict whose keys are tuples -/
def DD (X : Cx) (ρ : Env') (e : Expr) (kvs : List (NestedKey × PyData)) (ρ' : Env') : Prop := ∀ F Z B H σ Q, Ok X.K F Z B H σ ρ →
  (∀ p B' H', Ok X.K F Z B' H' σ ρ' → Sub B B' → New X.K F Z B' H' σ ρ' p → ObAt X.K B' H' (.ref p) [p] (.dn X.w kvs) → Q (.ref p) H') → sE X e σ H Q
theorem ds_setDn {i : Nat} {x : Str} {pos' : Pos} {kvs : List (NestedKey × PyData)} {s0 : Sl} (hN : X.N.Nodup) (he : DD X ρ e kvs ρ1) (hr : ρ1[i]? = some s0 := by rfl) (hi : X.N[i]? = some x := by rfl) (hx : Loc X.env.scope x := by first | exact Or.inl rfl | exact Or.inr rfl)
    (hs : swapsWith e (some (.Name x pos')) pos.line X.env = pure false := by rfl) (hf : X.fn x = true ∨ X.env.scope.names.lookup x = some .local := by first | exact .inl rfl | exact .inr rfl) : DS X ρ (.Assign [.Name x pos'] e pos) (.nx (ρ1.set i (.o (.dn X.w kvs)))) := fun F Z B H σ D k q =>
  ⟨_, ps_set hN hi hx pe_s hs hf, he F Z B H σ _ k fun p B1 H1 k1 x1 n w => q B1 H1 _ (k1.take n (List.getElem?_eq_some_iff.mp hr).1 w) x1⟩

/-- what is put in turn by turn -/
def kvN (ks : Nat → NestedKey × PyData) : Nat → List (NestedKey × PyData)
  | 0 => []
  | i + 1 => putN (kvN ks i) (ks i).1 (ks i).2
theorem putN_len {kvs : List (NestedKey × PyData)} {k : NestedKey} {d : PyData} : (putN kvs k d).length ≤ kvs.length + 1 := by
  unfold putN
  split <;> simp
theorem kvN_len {ks : Nat → NestedKey × PyData} : ∀ i, (kvN ks i).length ≤ i
  | 0 => Nat.le_refl _
  | i + 1 => Nat.le_trans putN_len (Nat.succ_le_succ (kvN_len i))
def DcT (X : Cx) (scope : Scope) (vs : List Nat) (tg kx vx : Expr) (x : PyData) (ρ : Env') (k : NestedKey) (d : PyData) (ρ' : Env') : Prop :=
  ∃ ρt js ρk ρe, (∀ j ∈ js, j ∈ vs) ∧ (Blk X scope fun Y => DG Y ρ tg x js ρt) ∧ (Blk X scope fun Y => DE Y ρt kx (.d k.data) ρk) ∧ (Blk X scope fun Y => DE Y ρk vx (.d d) ρe) ∧ Wk ρe ρ' ∧ k.depth ≤ 8 ∧ ∃ ks, k = .tup ks
theorem dc_go {scope : Scope} {vs : List Nat} (hi : DI X ρ tg iter xs ρ1) (ρs : Nat → Env') (ks : Nat → NestedKey × PyData)
    (turn : ∀ i x, xs[i]? = some x → DcT X scope vs tg kx vx x (ρs i) (ks i).1 (ks i).2 (ρs (i + 1))) (h0 : Wk (wipeE ρ1 vs) (ρs 0)) (hu : ∀ i, Wk (wipeE (ρs i) vs) (ρs i)) (hm : Mrg ρ1 (ρs xs.length) vs ρ') (hz : xs.length < 1000000)
    {F : Hp} {Z : Addr → Prop} {B H : Hp} {σ : L2.St} {Q : VK} (k : Ok X.K F Z B H σ ρ)
    (q : ∀ p B' H', Ok X.K F Z B' H' σ ρ' → Sub B B' → New X.K F Z B' H' σ ρ' p → ObAt X.K B' H' (.ref p) [p] (.dn X.w (kvN ks xs.length)) → Q (.ref p) H') :
    tDcN X.K X.w (sI X tg iter) (bG X scope tg) tYes (bE X scope kx) (bE X scope vx) vs σ H Q := by
  refine hi F Z B H σ _ k fun J n Gd Y B1 H1 k1 x1 hn W hG hY D hD hDs => ?_
  subst hn
  have kw := (k1.wipe vs).weak h0
  obtain ⟨frD, _, frZ⟩ := k1.fresh hD
  refine ⟨fun i m H' => m = xs.length - i ∧ i ≤ xs.length ∧ ∃ B', Ok X.K F Z B' H' (wipe σ vs) (ρs i) ∧ Sub B1 B' ∧ New X.K F Z B' H' (wipe σ vs) (ρs i) D ∧ ObAt X.K B' H' (.ref D) [D] (.dn X.w (kvN ks i)), ⟨xs.length, by simp, Nat.zero_le _, B1, kw.loose hD _, Sub.refl B1, kw.laid hD _, .dn upd_same hDs (by simp) (by simp) .nil⟩, ?_⟩
  rintro i m H' ⟨rfl, hle, B', k', y, nw, ob⟩
  by_cases hlt : i < xs.length
  · refine .inr ⟨W.goes i H' hlt (hG B' H' y k'.exB), fun H' => ∃ B', Ok X.K F Z B' H' (wipe σ vs) (ρs (i + 1)) ∧ Sub B1 B' ∧ New X.K F Z B' H' (wipe σ vs) (ρs (i + 1)) D ∧ ObAt X.K B' H' (.ref D) [D] (.dn X.w (kvN ks (i + 1))), fun H' h => ⟨xs.length - (i + 1), by omega, rfl, hlt, h⟩, ?_⟩
    intro v H2 hv
    have hv := W.yields i H' v H2 hlt (hG B' H' y k'.exB) hv
    cases ob with
    | @dn _ _ ys _ d1 d2 d3 d4 d5 =>
    obtain ⟨B2, x, hx, k2, y2, w⟩ := hY _ _ B' H' (wipe σ vs) (ρs i) i v H2 (k'.lock nw d1) y hlt hv
    obtain ⟨ρt, js, ρk, ρe, t1, t2, t3, t4, t5, t6, kk, ek⟩ := turn i x hx
    intro s0 H0 C0 cl0 fp0
    refine t2 s0 H0 C0 cl0 fp0 _ _ B2 H2 (wipe σ vs) v _ k2 w fun B3 H3 σ3 k3 y3 wp => ?_
    have e3 : wipe σ3 vs = wipe σ vs := wipe_wipe (wp vs t1)
    refine ⟨by rw [e3], ?_⟩
    unfold tYes
    dsimp only
    rw [if_pos rfl]
    intro s1 H1' C1 cl1 fp1
    refine t3 s1 H1' C1 cl1 fp1 _ _ B3 H3 σ3 _ k3 fun vk B4 H4 k4 y4 wk => ?_
    intro s2 H2' C2 cl2 fp2
    refine t4 s2 H2' C2 cl2 fp2 _ _ B4 H4 σ3 _ k4 fun vz B5 H5 k5 y5 wz => ?_
    have k5' := ((k5.weak t5).wipe vs).weak (hu (i + 1))
    rw [e3] at k5'
    obtain ⟨k6, n6, h6⟩ := k5'.unlock frD frZ
    have yy : Sub B' B5 := ((y2.trans y3).trans y4).trans y5
    have dk : Dp X.K B5 vk (NestedKey.tup kk).data := by
      have z := dp_mono y5 wk
      rw [ek] at z
      exact z
    have e4 : ∃ ka, vk = .ref ka := by
      rw [NestedKey.data] at dk
      cases dk; exact ⟨_, rfl⟩
    obtain ⟨ka, rfl⟩ := e4
    have d5' := d5.mono yy
    refine ⟨ys, .tup kk, ka, rfl, h6, fun z hz => ⟨dp_mono k6.exB (nk_keys d5' z hz).1, (nk_keys d5' z hz).2⟩, d4, d3, dp_mono k6.exB dk, by rw [← ek]; exact t6, fun u ru => ?_⟩
    have hl : (storedH ys (.tup kk) ka u).length ≤ 1000000 := Nat.le_trans storedH_len (by rw [d5.length]; have := kvN_len (ks := ks) i; omega)
    refine ⟨B5, k6.poke n6, y.trans yy, n6.poke k6, ?_⟩
    have fin : ObAt X.K B5 (upd H5 D (dnHO X.w D (storedH ys (.tup kk) ka u))) (.ref D) [D] (.dn X.w (putN (kvN ks i) (.tup kk) (ks i).2)) :=
      .dn upd_same d2 hl (storedH_nodup d4) (nk_put d5' dk (by rw [← ek]; exact t6) ru wz)
    show ObAt X.K B5 _ _ _ (.dn X.w (putN (kvN ks i) (ks i).1 (ks i).2))
    rw [ek]
    exact fin
  · have e : i = xs.length := by omega
    subst e
    have dn0 := ob
    cases ob with
    | @dn _ _ ys _ d1 d2 d3 d4 d5 =>
    obtain ⟨k6, n6, h6⟩ := (Ok.merge k1 (k'.lock nw d1) y hm).unlock frD frZ
    exact .inl ⟨W.stops H' (hG B' H' y k'.exB), q D B' H' k6 (x1.trans y) n6 dn0⟩
theorem dd_dc {scope : Scope} {own : List (Str × Nat)} (hunits : X.A.units + 100 < cLine) (hc : X.calm = true) (hN : X.N.Nodup) (ok : BlkOk X.N X.env.scope scope own) (hi : DI X ρ tg iter xs ρ1) (ρs : Nat → Env') (ks : Nat → NestedKey × PyData)
    (turn : ∀ i x, xs[i]? = some x → DcT X scope (own.map (·.2)) tg kx vx x (ρs i) (ks i).1 (ks i).2 (ρs (i + 1))) (h0 : Wk (wipeE ρ1 (own.map (·.2))) (ρs 0)) (hu : ∀ i, Wk (wipeE (ρs i) (own.map (·.2))) (ρs i)) (hm : Mrg ρ1 (ρs xs.length) (own.map (·.2)) ρ') (hz : xs.length < 1000000)
    (hs : ∀ x, foldedSetIterable iter X.env x = pure x := by intro _; rfl) : DD X ρ (.DictComp kx vx [⟨tg, iter, [], 0⟩] scope pos) (kvN ks xs.length) ρ' := fun F Z B H σ Q k q =>
  ⟨_, pe_dcN (g := bG X scope tg) (tt := tYes) (tk := bE X scope kx) (tv := bE X scope vx) hunits hc hN pi_s ok pg_b (fun _ _ _ _ _ => pts_nil) pe_b pe_b hs, dc_go hi ρs ks turn h0 hu hm hz k q⟩
theorem ds_setDc {i : Nat} {y : Str} {py spos : Pos} {s0 : Sl} {scope : Scope} {own : List (Str × Nat)} (hunits : X.A.units + 100 < cLine) (hc : X.calm = true) (hN : X.N.Nodup) (ok : BlkOk X.N X.env.scope scope own) (hsw : swapsWith (.DictComp kx vx [⟨tg, iter, [], 0⟩] scope pos) (some (.Name y py)) spos.line X.env = pure true)
    (hi : DI X ρ tg iter xs ρ1) (ρs : Nat → Env') (ks : Nat → NestedKey × PyData)
    (turn : ∀ i x, xs[i]? = some x → DcT X scope (own.map (·.2)) tg kx vx x (ρs i) (ks i).1 (ks i).2 (ρs (i + 1))) (h0 : Wk (wipeE ρ1 (own.map (·.2))) (ρs 0)) (hu : ∀ i, Wk (wipeE (ρs i) (own.map (·.2))) (ρs i)) (hm : Mrg ρ1 (ρs xs.length) (own.map (·.2)) ρ') (hz : xs.length < 1000000)
    (hr : ρ'[i]? = some s0 := by rfl) (hy : X.N[i]? = some y := by rfl) (hyl : X.env.scope.names.lookup y = some .local := by rfl) (hs : ∀ x, foldedSetIterable iter X.env x = pure x := by intro _; rfl) :
    DS X ρ (.Assign [.Name y py] (.DictComp kx vx [⟨tg, iter, [], 0⟩] scope pos) spos) (.nx (ρ'.set i (.o (.dn X.w (kvN ks xs.length))))) := fun F Z B H σ D k q =>
  ⟨_, ps_setDcN (g := bG X scope tg) (tt := tYes) (tk := bE X scope kx) (tv := bE X scope vx) hunits hc hN hy hyl hsw pi_s ok pg_b (fun _ _ _ _ _ => pts_nil) pe_b pe_b hs,
    dc_go hi ρs ks turn h0 hu hm hz k fun p B' H' k' x n w => q B' H' _ (k'.take n (List.getElem?_eq_some_iff.mp hr).1 w) x⟩
end
end G

set_option Elab.async false
set_option linter.all false
set_option maxRecDepth 100000
set_option maxHeartbeats 4000000
/- the source of the draws -/
namespace G
open PySem L2 PySem.Spec PyProof.Rows

abbrev kCells : Key := .inr "cells"
abbrev kLeft : Key := .inr "left"
abbrev kMixed : Key := .inr "mixed"
abbrev kTurn : Key := .inr "turn"
section
variable {l : Addr} {st : Src}
theorem src_cells : valV (srcKvs l st) kCells = some (.ref l) := by unfold srcKvs valV; rfl
theorem src_left : valV (srcKvs l st) kLeft = some (.int st.left) := by
  unfold srcKvs valV
  rw [List.find?_cons, show decide ((kCells : Key) = kLeft) = false by decide +kernel]
  rfl
theorem src_mixed : valV (srcKvs l st) kMixed = some (.int st.mixed) := by
  unfold srcKvs valV
  rw [List.find?_cons, show decide ((kCells : Key) = kMixed) = false by decide +kernel]
  dsimp only
  rw [List.find?_cons, show decide ((kLeft : Key) = kMixed) = false by decide +kernel]
  rfl
theorem src_turn : valV (srcKvs l st) kTurn = some (.int st.turn) := by
  unfold srcKvs valV
  rw [List.find?_cons, show decide ((kCells : Key) = kTurn) = false by decide +kernel]
  dsimp only
  rw [List.find?_cons, show decide ((kLeft : Key) = kTurn) = false by decide +kernel]
  dsimp only
  rw [List.find?_cons, show decide ((kMixed : Key) = kTurn) = false by decide +kernel]
  rfl
theorem ne_cl : ¬ (kCells : Key) = kLeft := by decide +kernel
theorem ne_cm : ¬ (kCells : Key) = kMixed := by decide +kernel
theorem ne_ct : ¬ (kCells : Key) = kTurn := by decide +kernel
theorem ne_lm : ¬ (kLeft : Key) = kMixed := by decide +kernel
theorem ne_lt : ¬ (kLeft : Key) = kTurn := by decide +kernel
theorem ne_mt : ¬ (kMixed : Key) = kTurn := by decide +kernel
theorem put_left {i : Int} : putK (srcKvs l st) kLeft (.int i) = srcKvs l { st with left := i } := by
  unfold putK srcKvs
  simp only [List.any_cons, List.any_nil, List.map_cons, List.map_nil, ne_cl, decide_false, decide_true, Bool.true_or, Bool.false_or, if_true, if_false, show ¬ (kMixed : Key) = kLeft from fun e => ne_lm e.symm, show ¬ (kTurn : Key) = kLeft from fun e => ne_lt e.symm]
theorem put_mixed {i : Int} : putK (srcKvs l st) kMixed (.int i) = srcKvs l { st with mixed := i } := by
  unfold putK srcKvs
  simp only [List.any_cons, List.any_nil, List.map_cons, List.map_nil, ne_cm, ne_lm, decide_false, decide_true, Bool.true_or, Bool.false_or, if_true, if_false, show ¬ (kTurn : Key) = kMixed from fun e => ne_mt e.symm]
theorem put_turn {i : Int} : putK (srcKvs l st) kTurn (.int i) = srcKvs l { st with turn := i } := by
  unfold putK srcKvs
  simp only [List.any_cons, List.any_nil, List.map_cons, List.map_nil, ne_ct, ne_lt, ne_mt, decide_false, decide_true, Bool.true_or, Bool.false_or, if_true, if_false]
end

section
variable {X : Cx} {ρ ρ' ρ1 ρ2 ρ3 ρ4 : Env'} {a b c e e1 e2 e3 e4 : Expr} {es : List Expr} {pos p p1 p2 p3 : Pos} {i : Nat} {sa : Addr} {st : Src} {j j' : Option Str}
/-- source["left"], source["mixed"], source["turn"] -/
theorem de_srcGet {key : Str} {n : Int} {jj} (hu : X.A.units + 100 < cLine) (hv : ∀ l, valV (srcKvs l st) (.inr key) = some (.int n)) (h : DE X ρ e (.o i) ρ1) (hs : ρ1[i]? = some (.o (.src sa st)) := by rfl) (hsl : NoSl (.Constant (.str key) jj p1) := by intro _ _; rfl) :
    DE X ρ (.Subscript e (.Constant (.str key) jj p1) pos) (.d (.int n)) ρ1 := fun F Z B H σ Q k q =>
  ⟨_, pe_dget (by omega) pe_s pe_str hsl, h F Z B H σ _ k fun v B1 H1 k1 x1 w => by
    obtain ⟨v', as, g1, g2, _⟩ := k1.ob (gS_some hs)
    have w' : gV σ i = some v := w
    rw [w'] at g1
    cases g1
    cases g2 with
    | @src _ l _ n1 n2 n3 =>
    refine ⟨sa, .int n, rfl, ?_, q _ B1 H1 k1 x1 (.int n)⟩
    have g := DGet.k (k := (.inr key : Key)) n2
    rw [hv l] at g
    exact g⟩
/-- source[key] = e -/
theorem ds_srcSet {key : Str} {n : Int} {jj} {st' : Src} {pos' : Pos} (hu : X.A.units + 100 < cLine) (hp : ∀ l, putK (srcKvs l st) (.inr key) (.int n) = srcKvs l st') (hc : st'.cells = st.cells) (hv : DE X ρ e (.d (.int n)) ρ1) (ho : DE X ρ1 a (.o i) ρ2) (hs2 : ρ2[i]? = some (.o (.src sa st)) := by rfl)
    (hs : swapsWith e (some (.Subscript a (.Constant (.str key) jj p1) pos')) pos.line X.env = pure false := by rfl) : DS X ρ (.Assign [.Subscript a (.Constant (.str key) jj p1) pos'] e pos) (.nx (ρ2.set i (.o (.src sa st')))) := fun F Z B H σ D k q =>
  ⟨_, ps_dput (by omega) pe_s pe_str pe_s hs, hv F Z B H σ _ k fun v B1 H1 k1 x1 w1 => ho F Z B1 H1 σ _ k1 fun o B2 H2 k2 x2 w2 => by
    obtain ⟨v', as, g1, g2, _⟩ := k2.ob (gS_some hs2)
    have w' : gV σ i = some o := w2
    rw [w'] at g1
    cases g1
    have dn0 := g2
    cases g2 with
    | @src _ l _ n1 n2 n3 =>
    have dv : Dp X.K B1 v (.int n) := w1
    cases dv
    have hz : (srcKvs l st).length < sizeLine := by rw [sizeLine_eq]; show 4 < 16777216; omega
    have g := DPut.k (k := (.inr key : Key)) (v := .int n) n2 hz
    rw [hp l] at g
    refine ⟨sa, _, rfl, g, q B2 _ σ (k2.turn (gS_some hs2) w' dn0 (.src n1 upd_same ?_) fun b hb => ?_) (x1.trans x2)⟩
    · rw [upd_ne (Ne.symm n1), hc]; exact n3
    · rw [upd_ne fun z => hb (by rw [z]; exact List.mem_cons_self)]⟩
/-- len(source["cells"]) -/
theorem de_srcLen {jj} (hu : X.A.units + 100 < cLine) (hm : X.mg "len" = none) (h : DE X ρ e (.o i) ρ1) (hs : ρ1[i]? = some (.o (.src sa st)) := by rfl) (hg : Gl X "len" := by rfl) (hsl : NoSl (.Constant (.str "cells") jj p1) := by intro _ _; rfl)
    (he : starEach [.Subscript e (.Constant (.str "cells") jj p1) p2] X.env = (false, eval (.Subscript e (.Constant (.str "cells") jj p1) p2) X.env) :: starEach [] X.env := by rfl) (hpl : (backTo pos (starEach [] X.env)).any (·.1) = false := by rfl) :
    DE X ρ (.Call (.Name "len" p) [.Subscript e (.Constant (.str "cells") jj p1) p2] [] pos) (.d (.int st.cells.length)) ρ1 := fun F Z B H σ Q k q =>
  ⟨_, pe_callB call_len_seq hg hm PySem.boot_len (pa_cons (pe_dget (by omega) pe_s pe_str hsl) pa_nil he) (by decide) (by decide) he hpl, h F Z B H σ _ k fun v B1 H1 k1 x1 w => by
    obtain ⟨v', as, g1, g2, _⟩ := k1.ob (gS_some hs)
    have w' : gV σ i = some v := w
    rw [w'] at g1
    cases g1
    cases g2 with
    | @src _ l _ n1 n2 n3 =>
    have g := DGet.k (k := kCells) n2
    rw [src_cells] at g
    exact ⟨sa, .ref l, rfl, g, l, _, rfl, .inl (SqL.of n3), by rw [List.length_map]; exact q _ B1 H1 k1 x1 (.int _)⟩⟩
/-- source["left"] = source["cells"].pop() -/
theorem ds_srcPop {jj jj2} {cs : List Int} {n : Int} {apos pos' : Pos} (hu : X.A.units + 100 < cLine) (hcs : st.cells = cs ++ [n]) (h : DE X ρ e (.o i) ρ) (h2 : DE X (ρ.set i (.o (.src sa { st with cells := cs }))) a (.o i) (ρ.set i (.o (.src sa { st with cells := cs })))) (hs : ρ[i]? = some (.o (.src sa st)) := by rfl) (hsl : NoSl (.Constant (.str "cells") jj p1) := by intro _ _; rfl)
    (hbase : attributeBase (.Subscript e (.Constant (.str "cells") jj p1) p2) "pop" X.env (eval (.Subscript e (.Constant (.str "cells") jj p1) p2) X.env) = eval (.Subscript e (.Constant (.str "cells") jj p1) p2) X.env := by rfl) (hline : (apos.endLine == p3.line) = true := by rfl)
    (hsw : swapsWith (.Call (.Attribute (.Subscript e (.Constant (.str "cells") jj p1) p2) "pop" apos) [] [] p3) (some (.Subscript a (.Constant (.str "left") jj2 p) pos')) pos.line X.env = pure false := by rfl) :
    DS X ρ (.Assign [.Subscript a (.Constant (.str "left") jj2 p) pos'] (.Call (.Attribute (.Subscript e (.Constant (.str "cells") jj p1) p2) "pop" apos) [] [] p3) pos) (.nx (ρ.set i (.o (.src sa { st with cells := cs, left := n })))) := fun F Z B H σ D k q =>
  ⟨_, ps_dput (by omega) pe_s pe_str (pe_bm0 PySem.F.plainAttrs_list PySem.F.slot_list_pop PySem.F.type_list_pop mt_pop (pe_dget (by omega) pe_s pe_str hsl) hbase hline) hsw, h F Z B H σ _ k fun v B1 H1 k1 x1 w => by
    obtain ⟨v', as, g1, g2, _⟩ := k1.ob (gS_some hs)
    have w' : gV σ i = some v := w
    rw [w'] at g1
    cases g1
    have dn0 := g2
    cases g2 with
    | @src _ l _ n1 n2 n3 =>
    have g := DGet.k (k := kCells) n2
    rw [src_cells] at g
    have e1 : st.cells.map V.int = cs.map V.int ++ [V.int n] := by rw [hcs]; simp
    rw [e1] at n3
    refine ⟨sa, .ref l, rfl, g, .inl ⟨rfl, _, SqL.of n3⟩, l, _, .int n, rfl, rfl, n3, by simp, ?_⟩
    have e2 : (cs.map V.int ++ [V.int n]).dropLast = cs.map V.int := by simp
    rw [e2]
    have k2 := k1.turn (H' := upd H1 l (.lst (cs.map V.int))) (b' := .src sa { st with cells := cs }) (gS_some hs) w' dn0 (.src n1 (by rw [upd_ne n1]; exact n2) upd_same) fun b hb => by
      rw [upd_ne fun z => hb (by rw [z]; exact List.mem_cons_of_mem _ List.mem_cons_self)]
    refine h2 F Z B1 _ σ _ k2 fun o B3 H3 k3 x3 w3 => ?_
    have hsi : (ρ.set i (.o (.src sa { st with cells := cs })))[i]? = some (.o (.src sa { st with cells := cs })) := List.getElem?_set_self (List.getElem?_eq_some_iff.mp hs).1
    obtain ⟨v', as, g1, g2, _⟩ := k3.ob (gS_some hsi)
    rw [w'] at g1
    cases g1
    have eo : o = .ref sa := by
      have w3' : gV σ i = some o := w3
      rw [w'] at w3'
      exact (Option.some.inj w3').symm
    subst eo
    have dn1 := g2
    cases g2 with
    | @src _ l _ n1 n2 n3 =>
    have hz : (srcKvs l { st with cells := cs }).length < sizeLine := by rw [sizeLine_eq]; show 4 < 16777216; omega
    have gp := DPut.k (k := kLeft) (v := .int n) n2 hz
    rw [put_left] at gp
    refine ⟨sa, _, rfl, gp, ?_⟩
    have k4 := k3.turn (H' := upd H3 sa (.dK (srcKvs l { st with cells := cs, left := n }))) (b' := .src sa { st with cells := cs, left := n }) (gS_some hsi) w' dn1 (.src n1 upd_same (by rw [upd_ne (Ne.symm n1)]; exact n3)) fun b hb => by
      rw [upd_ne fun z => hb (by rw [z]; exact List.mem_cons_self)]
    rw [List.set_set] at k4
    exact q B3 _ σ k4 (x1.trans x3)⟩

/-! ### a new source -/
def DSrc (X : Cx) (ρ : Env') (e : Expr) (st : Src) (ρ' : Env') : Prop := ∀ F Z B H σ Q, Ok X.K F Z B H σ ρ →
  (∀ a l B' H', Ok X.K F Z B' H' σ ρ' → Sub B B' → New X.K F Z B' H' σ ρ' a → New X.K F Z B' H' σ ρ' l → ObAt X.K B' H' (.ref a) [a, l] (.src a st) → Q (.ref a) H') → sE X e σ H Q
theorem New.other {K : PySem.W.Frag} {F : Hp} {Z : Addr → Prop} {B B' H H' : Hp} {σ : L2.St} {q : Addr} (k : Ok K F Z B H σ ρ) (n : New K F Z B H σ ρ q) (e : ∀ b, b ≠ q → (∃ o, H b = some o) → H' b = H b) (hq : ∃ o, H q = some o) : New K F Z B H' σ ρ q := by
  refine ⟨n.f, n.b, n.z, fun j b v as g1 g2 g3 m => ?_⟩
  obtain ⟨v', as', f1, f2, f3⟩ := k.ob g1
  rw [g2] at f1
  cases f1
  have np : q ∉ as' := n.o j b v as' g1 g2 f2
  have e : as = as' := ObAt.uni g3 f2 fun a ha => e a (fun z => np (by rw [← z]; exact ha)) (f2.live a ha)
  rw [e] at m
  exact np m
theorem dsrc_disp {j1 j2 j3 j4} {q1 q2 q3 q4 : Pos} (h1 : DL X ρ e1 (st.cells.map .int) ρ1) (h2 : DE X ρ1 e2 (.d (.int st.left)) ρ1) (h3 : DE X ρ1 e3 (.d (.int st.mixed)) ρ1) (h4 : DE X ρ1 e4 (.d (.int st.turn)) ρ1) :
    DSrc X ρ (.Dict [some (.Constant (.str "cells") j1 q1), some (.Constant (.str "left") j2 q2), some (.Constant (.str "mixed") j3 q3), some (.Constant (.str "turn") j4 q4)] [e1, e2, e3, e4] pos) st ρ1 := fun F Z B H σ Q k q =>
  ⟨_, pe_disp (pps_cons pe_str pe_s (pps_cons pe_str pe_s (pps_cons pe_str pe_s (pps_cons pe_str pe_s pps_nil)))) rfl rfl (by intro z; cases z) (by simp), fun a ha => by
    obtain ⟨af, ab, az⟩ := k.fresh ha
    have kl := (k.loose ha (.dK [])).lock (k.laid ha (.dK [])) upd_same
    refine h1 _ _ B _ σ _ kl fun l us B1 H1 k1 x1 n1 hl t1 => ?_
    -- the list is held fast, too
    have kl1 := k1.lock n1 hl
    refine h2 _ _ B1 H1 σ _ kl1 fun v2 B2 H2 k2 x2 w2 => h3 _ _ B2 H2 σ _ k2 fun v3 B3 H3 k3 x3 w3 => h4 _ _ B3 H3 σ _ k3 fun v4 B4 H4 k4 x4 w4 => ?_
    cases w2; cases w3; cases w4
    obtain ⟨k5, n5, h5⟩ := k4.unlock n1.f n1.z
    have la : l ≠ a := fun z => n1.z (.inr z)
    obtain ⟨k6, n6, h6⟩ := k5.unlock af az
    have eus := DpAll.ints t1
    subst eus
    refine ⟨h6, [(kCells, .ref l), (kLeft, .int st.left), (kMixed, .int st.mixed), (kTurn, .int st.turn)], rfl, by simp, ?_⟩
    have em : mergeK [] [(kCells, V.ref l), (kLeft, .int st.left), (kMixed, .int st.mixed), (kTurn, .int st.turn)] = srcKvs l st := by
      show putK (putK (putK (putK [] kCells (.ref l)) kLeft (.int st.left)) kMixed (.int st.mixed)) kTurn (.int st.turn) = srcKvs l st
      unfold srcKvs
      simp only [putK, List.any_nil, List.any_cons, List.nil_append, ne_cl, ne_cm, ne_ct, ne_lm, ne_lt, ne_mt, decide_false, Bool.or_false, Bool.false_eq_true, if_false, List.cons_append]
    rw [em]
    have nl : New X.K F Z B4 H4 σ ρ1 l := by
      have fl : F l = none := by
        have z := n1.f
        rw [upd_ne la] at z
        exact z
      exact ⟨fl, n5.b, fun z => n1.z (.inl z), n5.o⟩
    refine q a l B4 _ (k6.poke n6) (((x1.trans x2).trans x3).trans x4) (n6.poke k6) ?_ (.src (Ne.symm la) upd_same (by rw [upd_ne la]; exact h5))
    refine ⟨nl.f, nl.b, nl.z, fun j b v as g1 g2 g3 m => ?_⟩
    obtain ⟨v', as', f1, f2, f3⟩ := k6.ob g1
    rw [g2] at f1
    cases f1
    have np : a ∉ as' := n6.o j b v as' g1 g2 f2
    have e : as = as' := ObAt.uni g3 f2 fun c hc => by rw [upd_ne fun z => np (by rw [← z]; exact hc)]
    rw [e] at m
    exact nl.o j b v as' g1 g2 f2 m⟩
/-- a block that hands back a new source -/
def DBs (X : Cx) (ρ : Env') (sts : List Stmt) (st : Src) : Prop := ∀ F Z B H σ D, Ok X.K F Z B H σ ρ →
  (∀ a l B' H' σ' ρ', Ok X.K F Z B' H' σ' ρ' → Sub B B' → New X.K F Z B' H' σ' ρ' a → New X.K F Z B' H' σ' ρ' l → ObAt X.K B' H' (.ref a) [a, l] (.src a st) → D.rt (.ref a) H') → sB X sts D σ H
theorem dbs_cons {s1 : Stmt} {rest : List Stmt} (h : DS X ρ s1 (.nx ρ1)) (t : DBs X ρ1 rest st) : DBs X ρ (s1 :: rest) st := fun F Z B H σ D k q =>
  ⟨_, pss_cons ps_s pb_s, h F Z B H σ { D with nx := sB X rest D } k fun B1 H1 σ1 k1 x1 => t F Z B1 H1 σ1 D k1 fun a l B2 H2 σ2 ρ2 k2 x2 => q a l B2 H2 σ2 ρ2 k2 (x1.trans x2)⟩
theorem dbs_ret (h : DSrc X ρ e st ρ1) : DBs X ρ [.Return (some e) pos] st := fun F Z B H σ D k q =>
  ⟨_, pss_one (ps_ret pe_s), h F Z B H σ _ k fun a l B' H' k' x n1 n2 ob => q a l B' H' σ ρ1 k' x n1 n2 ob⟩
def spN (K : PySem.W.Frag) (Φ : List PyData → Src → Prop) : Sp := fun vs H Q _ => ∃ F Z B ds st, Φ ds st ∧ Ok K F Z B H (vs.map some) (ds.map Sl.d) ∧
  ∀ a l B' H', Ok K F Z B' H' (vs.map some) (ds.map Sl.d) → Sub B B' → New K F Z B' H' (vs.map some) (ds.map Sl.d) a → New K F Z B' H' (vs.map some) (ds.map Sl.d) l → ObAt K B' H' (.ref a) [a, l] (.src a st) → Q (.ref a) H'
theorem fnN_of {P : Program} {w : World} {K : PySem.W.Frag} {mg : Str → Option Value} {base : Heap} {x qual : Str} {sd : Stmt} {f : Addr} {fd : FuncData} {N ps : List Str} {k : Nat} {Φ : List PyData → Src → Prop} (Fn : Fun K x qual sd f fd) (S : FnScope N ps (defScope sd)) (len : ∀ ds d, Φ ds d → ds.length = ps.length)
    (body : ∀ (cdv : Value) (A : Around) (outer : List Env) (s : Shared) (H : Hp) (E : XK) (ds : List PyData) (d : Src), A.guards = some [] → Room k (A.deeper (envOfC qual (defScope sd) s.heap.objs.size f cdv)) → Φ ds d →
      DBs (cxOf L2.CX0 P w K mg base N qual (defScope sd) f cdv A outer s H E).nox (ds.map Sl.d ++ List.replicate (N.length - ds.length) .un) (defBody sd) d) :
    FnG P w K mg base (k + 1) f fd ps (spN K Φ) := by
  refine fnG_of Fn S ?_ ?_
  · rintro vs H Q E ⟨F, Z, B, ds, d, h, k, _⟩
    have e := k.len
    rw [List.length_map, List.length_map] at e
    rw [e, len ds d h]
  · rintro cdv A outer s H vs Q E hg hr ⟨F, Z, B, ds, d, h, k, q⟩
    have hb := body cdv A outer s H E ds d hg hr h
    have e := k.len
    rw [List.length_map, List.length_map] at e
    have kk := k.app (N.length - ds.length)
    refine ⟨_, pb_s, hb F Z B H _ _ (by unfold L2.start; rw [e]; exact kk) fun a l B' H' σ' ρ' k' y n1 n2 ob => ?_⟩
    obtain ⟨own, _, _, h3⟩ := k.own
    have rd : DpAll K B vs ds := dpAll_of vs ds e h3
    have ko := okD k'.exF k'.exB k'.z (dpAll_mono y rd)
    have nn : ∀ {q : Addr}, New K F Z B' H' σ' ρ' q → New K F Z B' H' (vs.map some) (ds.map Sl.d) q := fun {q} n => ⟨n.f, n.b, n.z, fun j b v as g1 g2 g3 m => by
      have z : ∀ (ds : List PyData) (j : Nat), gS (ds.map Sl.d) j ≠ .o b := by
        intro ds j h
        unfold gS at h
        rw [List.getElem?_map] at h
        cases hd : ds[j]? with
        | none => rw [hd] at h; cases h
        | some d => rw [hd] at h; cases h
      exact z ds j g1⟩
    exact q a l B' H' ko y (nn n1) (nn n2) ob
/-- source = f(script) -/
theorem db_setSrc {x y : Str} {k : Nat} {f : Addr} {fd : FuncData} {ps : List Str} {ds : List PyData} {rest : List Stmt} {o : O} {s0 : Sl} {pos' : Pos} {Φ : List PyData → Src → Prop} (Fn : FnG X.prog X.w X.K X.mg X.base k f fd ps (spN X.K Φ)) (hgd : X.A.guards = some []) (hr : Room k X.A) (hm : X.mg x = some (.ref f)) (hk : PySem.W.keepIn X.K (.ref f) = true) (hb : Binds X.K fd ps [])
    (hΦ : Φ ds st) (hN : X.N.Nodup) (h : DA X ρ (e :: es) ds ρ1) (t : ∀ a, DB X (ρ1.set i (.o (.src a st))) rest o) (hr1 : ρ1[i]? = some s0 := by rfl) (hi : X.N[i]? = some y := by rfl) (hg : Gl X x := by rfl) (hdb : (x == ("__debug__" : Str)) = false := by decide) (he : starEach (e :: es) X.env = (false, eval e X.env) :: starEach es X.env := by rfl)
    (hpl : (backTo p (starEach es X.env)).any (·.1) = false := by rfl) (hx : Loc X.env.scope y := by first | exact Or.inl rfl | exact Or.inr rfl)
    (hsw : swapsWith (.Call (.Name x p1) (e :: es) [] p) (some (.Name y pos')) pos.line X.env = pure false := by rfl) (hf : X.fn y = true ∨ X.env.scope.names.lookup y = some .local := by first | exact .inl rfl | exact .inr rfl) :
    DB X ρ (.Assign [.Name y pos'] (.Call (.Name x p1) (e :: es) [] p) pos :: rest) o := fun F Z B H σ D k' q =>
  ⟨_, pss_cons (ps_set hN hi hx (pe_callG Fn hgd hr hg hm hk hb pa_s hdb he hpl) hsw hf) pb_s, h F Z B H σ _ k' fun vs B1 H1 k1 x1 tt => by
    show spN X.K Φ (vs ++ []) H1 _ L2.E0
    rw [List.append_nil]
    refine ⟨H1, fun b => H1 b ≠ none ∧ B1 b = none, B1, ds, st, hΦ, okD (Sub.refl H1) k1.exB (fun b hb => ⟨hb.2, Option.ne_none_iff_exists'.mp hb.1⟩) tt, fun a l B2 H2 k2 y n1 n2 ob => ?_⟩
    have k3 := k1.grow y k2.exF k2.exB fun b hb hb' => (k2.z b ⟨hb, hb'⟩).1
    have fr : ∀ {c : Addr}, H1 c = none → H2 c ≠ none → B2 c = none → New X.K F Z B2 H2 σ ρ1 c := fun {c} h1 h2 h3 => by
      obtain ⟨z1, z2, z3⟩ := k1.fresh h1
      refine ⟨z1, h3, z3, fun j b v as g1 g2 g3 m => ?_⟩
      obtain ⟨v', as', f1, f2, f3⟩ := k1.ob g1
      rw [g2] at f1
      cases f1
      have e : as = as' := ObAt.uni g3 f2 fun d hd => by
        obtain ⟨o, ho⟩ := f2.live d hd
        rw [ho, k2.exF d o ho]
      rw [e] at m
      obtain ⟨o, ho⟩ := f2.live _ m
      rw [h1] at ho; cases ho
    have na := fr n1.f (by obtain ⟨o, ho⟩ := ob.live a List.mem_cons_self; rw [ho]; simp) n1.b
    have nl := fr n2.f (by obtain ⟨o, ho⟩ := ob.live l (List.mem_cons_of_mem _ List.mem_cons_self); rw [ho]; simp) n2.b
    refine t a F Z B2 H2 _ D (k3.setO (List.getElem?_eq_some_iff.mp hr1).1 ob (fun b hb => ?_) fun own h3 _ j _ b hb => ?_) (q.sub (x1.trans y))
    · rcases (show b = a ∨ b = l by simpa using hb) with z | z
      · subst z; exact ⟨na.f, na.b, na.z⟩
      · subst z; exact ⟨nl.f, nl.b, nl.z⟩
    · rcases (show b = a ∨ b = l by simpa using hb) with z | z
      · subst z; exact na.not h3 j
      · subst z; exact nl.not h3 j⟩
end
end G

set_option Elab.async false
set_option linter.all false
set_option maxRecDepth 100000
set_option maxHeartbeats 4000000
/- parallel assignment, while by turns, dicts with texts as keys, a list that is laid still -/
namespace G
open PySem L2 PySem.Spec PyProof.Rows
section
variable {X : Cx} {ρ ρ' ρ1 ρ2 ρ3 : Env'} {a b c e : Expr} {es : List Expr} {r r1 r2 r3 : R} {pos p : Pos} {st : Stmt} {rest sts body : List Stmt} {o : O} {xs ys : List PyData}
/-! ### a, b = e1, e2 -/
theorem ds_par {i j : Nat} {x y : Str} {d1 d2 : PyData} {px py pt : Pos} {kt k2 pt2} (hc : X.calm = true) (hN : X.N.Nodup) (ha : DA X ρ [a, b] [d1, d2] ρ1) (hi : X.N[i]? = some x := by rfl) (hj : X.N[j]? = some y := by rfl) (hij : i ≠ j := by decide)
    (hx : X.env.scope.names.lookup x = some .local := by rfl) (hy : X.env.scope.names.lookup y = some .local := by rfl)
    (hw : swappedStores [.Tuple [.Name x px, .Name y py] kt pt] (.Tuple [a, b] k2 pt2) X.env = pure (some [x, y]) := by rfl)
    (hs : swapsWithSole [.Tuple [.Name x px, .Name y py] kt pt] (.Tuple [a, b] k2 pt2) pos.line X.env = pure false := by rfl) :
    DS X ρ (.Assign [.Tuple [.Name x px, .Name y py] kt pt] (.Tuple [a, b] k2 pt2) pos) (.nx ((ρ1.set i (.d d1)).set j (.d d2))) := fun F Z B H σ D k q =>
  ⟨_, ps_par hc hN hi hj hij hx hy pa_s hw hs, ha F Z B H σ _ k fun vs B1 H1 k1 x1 t => by
    cases t with
    | cons t1 t =>
      cases t with
      | cons t2 t =>
        cases t
        exact ⟨_, _, rfl, q B1 H1 _ ((k1.setD t1).setD t2) x1⟩⟩
theorem ds_parL {i j : Nat} {x y : Str} {d1 : PyData} {s0 : Sl} {px py pt : Pos} {kt k2 pt2} (hc : X.calm = true) (hN : X.N.Nodup) (ha : DE X ρ a (.d d1) ρ1) (hb : DL X ρ1 b ys ρ2) (hr : ρ2[j]? = some s0 := by rfl) (hi : X.N[i]? = some x := by rfl) (hj : X.N[j]? = some y := by rfl) (hij : i ≠ j := by decide)
    (hx : X.env.scope.names.lookup x = some .local := by rfl) (hy : X.env.scope.names.lookup y = some .local := by rfl)
    (hw : swappedStores [.Tuple [.Name x px, .Name y py] kt pt] (.Tuple [a, b] k2 pt2) X.env = pure (some [x, y]) := by rfl)
    (hs : swapsWithSole [.Tuple [.Name x px, .Name y py] kt pt] (.Tuple [a, b] k2 pt2) pos.line X.env = pure false := by rfl)
    (hs1 : starEach [a, b] X.env = (false, eval a X.env) :: starEach [b] X.env := by rfl) (hs2 : starEach [b] X.env = (false, eval b X.env) :: starEach [] X.env := by rfl) :
    DS X ρ (.Assign [.Tuple [.Name x px, .Name y py] kt pt] (.Tuple [a, b] k2 pt2) pos) (.nx ((ρ2.set j (.o (.lst ys))).set i (.d d1))) := fun F Z B H σ D k q =>
  ⟨_, ps_par hc hN hi hj hij hx hy (pa_cons pe_s (pa_cons pe_s pa_nil hs2) hs1) hw hs, ha F Z B H σ _ k fun v1 B1 H1 k1 x1 w1 => hb F Z B1 H1 σ _ k1 fun p us B2 H2 k2 x2 n2 h2 t2 => by
    refine ⟨v1, .ref p, rfl, ?_⟩
    rw [List.set_comm _ _ hij]
    have w2 : Dp X.K B1 v1 d1 := w1
    exact q B2 H2 _ ((k2.take n2 (List.getElem?_eq_some_iff.mp hr).1 (.lst h2 t2)).setD (dp_mono x2 w2)) (x1.trans x2)⟩

/-! ### a list of our own is data from here on -/
theorem Ok.still {K : PySem.W.Frag} {F : Hp} {Z : Addr → Prop} {B H : Hp} {σ : L2.St} {i : Nat} {xs : List PyData} (k : Ok K F Z B H σ ρ) (hs : gS ρ i = .o (.lst xs)) : ∃ B', Sub B B' ∧ Ok K F Z B' H σ (ρ.set i (.d (.list xs))) := by
  obtain ⟨v, as, g1, g2, g3⟩ := k.ob hs
  cases g2 with
  | @lst a vs _ h t =>
  obtain ⟨f1, f2, f3⟩ := g3 a List.mem_cons_self
  have n : New K F Z B H σ (ρ.set i .un) a := by
    refine ⟨f1, f2, f3, fun j b v as q1 q2 q3 m => ?_⟩
    rw [gS_set] at q1
    split at q1
    · cases q1
    · rename_i hne
      obtain ⟨own, o1, o2, o3⟩ := k.own
      have e1 := o3 j
      rw [q1, q2] at e1
      have e2 := o3 i
      rw [hs, g1] at e2
      generalize hoj : own j = oj at e1
      generalize hoi : own i = oi at e2
      cases e1 with
      | o e1 =>
        cases e2 with
        | o e2 =>
          have z1 : oj = as := ObAt.uni e1 q3 fun _ _ => rfl
          have z2 : a ∈ oi := by cases e2; exact List.mem_cons_self
          have ji : j = i := o2 j i a (by rw [hoj, z1]; exact m) (by rw [hoi]; exact z2)
          have hl : i < ρ.length := by
            rcases Nat.lt_or_ge i ρ.length with z | z
            · exact z
            · unfold gS at hs
              rw [List.getElem?_eq_none z] at hs
              cases hs
          exact hne ⟨ji, hl⟩
  have ku : Ok K F Z B H σ (ρ.set i .un) := by
    have q := k.setN (i := i) (a := gV σ i)
    have e : σ.set i (gV σ i) = σ := by
      apply List.ext_getElem?
      intro m
      by_cases em : m = i
      · subst em
        rw [gV_some g1 |> fun z => (by rw [g1] : gV σ m = some (.ref a))]
        by_cases hl : m < σ.length
        · rw [List.getElem?_set_self hl, gV_some g1]
        · have := List.getElem?_eq_none (Nat.le_of_not_lt hl)
          rw [gV_some g1] at this
          cases this
      · rw [List.getElem?_set_ne (Ne.symm em)]
    rw [e] at q
    exact q
  have k3 := ku.adopt n h
  have x3 : Sub B (upd B a (.lst vs)) := fun b o' hb => by rw [upd_ne (ne_of_none hb f2)]; exact hb
  refine ⟨upd B a (.lst vs), x3, ?_⟩
  have k4 := k3.setD (i := i) (v := .ref a) (x := .list xs) (.lst (.inl (.inl upd_same)) (dpAll_mono x3 t))
  have e : σ.set i (some (.ref a)) = σ := by
    apply List.ext_getElem?
    intro m
    by_cases em : m = i
    · subst em
      have hl : m < σ.length := (List.getElem?_eq_some_iff.mp (gV_some g1)).1
      rw [List.getElem?_set_self hl, gV_some g1]
    · rw [List.getElem?_set_ne (Ne.symm em)]
  rw [e, List.set_set] at k4
  exact k4
theorem db_still {i : Nat} (t : DB X (ρ.set i (.d (.list xs))) sts o) (hs : ρ[i]? = some (.o (.lst xs)) := by rfl) : DB X ρ sts o := fun F Z B H σ D k q => by
  obtain ⟨B', x, k'⟩ := k.still (gS_some hs)
  exact t F Z B' H σ D k' (q.sub x)

/-! ### while, by turns -/
inductive Lp (X : Cx) (c : Expr) (body : List Stmt) : Env' → Env' → Prop
  | stop {ρ ρ1 : Env'} : DT X ρ c false ρ1 → Lp X c body ρ ρ1
  | step {ρ ρt ρe ρ2 ρ' : Env'} : DT X ρ c true ρt → (DB X ρt body (.nx ρe) ∨ DB X ρt body (.ct ρe)) → Wk ρe ρ2 → Lp X c body ρ2 ρ' → Lp X c body ρ ρ'
theorem Lp.turns (h : Lp X c body ρ ρ') : ∃ n, ∃ ρs : Nat → Env', ρs 0 = ρ ∧ (∀ i, i < n → ∃ ρt ρe, DT X (ρs i) c true ρt ∧ (DB X ρt body (.nx ρe) ∨ DB X ρt body (.ct ρe)) ∧ Wk ρe (ρs (i + 1))) ∧ DT X (ρs n) c false ρ' := by
  induction h with
  | stop h => exact ⟨0, fun _ => _, rfl, fun i hi => absurd hi (Nat.not_lt_zero _), h⟩
  | step h1 h2 h3 _ ih =>
    obtain ⟨n, ρs, g0, g1, g2⟩ := ih
    refine ⟨n + 1, fun i => match i with | 0 => _ | m + 1 => ρs m, rfl, fun i hi => ?_, g2⟩
    cases i with
    | zero => exact ⟨_, _, h1, h2, by show Wk _ (ρs 0); rw [g0]; exact h3⟩
    | succ m => exact g1 m (by omega)
theorem ds_while (hp : PassesOwn (model X.prog X.w) X.A X.env X.xe) (h : Lp X c body ρ ρ1) : DS X ρ (.While c body [] pos) (.nx ρ1) := by
  obtain ⟨n, ρs, g0, g1, g2⟩ := h.turns
  exact while_goes hp n ρs (by rw [g0]; exact Wk.refl _) g1 g2

/-! ### dicts with texts as keys -/
theorem ds_newDk {i : Nat} {x : Str} {pos' dpos : Pos} {s0 : Sl} (hN : X.N.Nodup) (hr : ρ[i]? = some s0 := by rfl) (hi : X.N[i]? = some x := by rfl) (hx : Loc X.env.scope x := by first | exact Or.inl rfl | exact Or.inr rfl) (hs : swapsWith (.Dict [] [] dpos) (some (.Name x pos')) pos.line X.env = pure false := by rfl)
    (hf : X.fn x = true ∨ X.env.scope.names.lookup x = some .local := by first | exact .inl rfl | exact .inr rfl) : DS X ρ (.Assign [.Name x pos'] (.Dict [] [] dpos) pos) (.nx (ρ.set i (.o (.dk [])))) := fun F Z B H σ D k q =>
  ⟨_, ps_set hN hi hx pe_dnewK hs hf, fun d hd => q B _ _ ((k.loose hd _).take (k.laid hd _) (List.getElem?_eq_some_iff.mp hr).1 (.dk upd_same .nil)) (Sub.refl B)⟩
def putD (kvs : List (Key × PyData)) (k : Key) (v : PyData) : List (Key × PyData) := if (kvs.any fun kv => decide (kv.1 = k)) = true then kvs.map (fun kv => if kv.1 = k then (kv.1, v) else kv) else kvs ++ [(k, v)]
theorem KvAll.any {K : PySem.W.Frag} {B : Hp} {k : Key} : ∀ {r : List (Key × V)} {s : List (Key × PyData)}, KvAll K B r s → (r.any fun kv => decide (kv.1 = k)) = (s.any fun kv => decide (kv.1 = k))
  | _, _, .nil => rfl
  | _, _, .cons h t => by rw [List.any_cons, List.any_cons, KvAll.any t]
theorem KvAll.append {K : PySem.W.Frag} {B : Hp} : ∀ {r r2 : List (Key × V)} {s s2 : List (Key × PyData)}, KvAll K B r s → KvAll K B r2 s2 → KvAll K B (r ++ r2) (s ++ s2)
  | _, _, _, _, .nil, q => q
  | _, _, _, _, .cons h t, q => .cons h (KvAll.append t q)
theorem KvAll.map {K : PySem.W.Frag} {B : Hp} {k : Key} {v : V} {d : PyData} (w : Dp K B v d) : ∀ {r : List (Key × V)} {s : List (Key × PyData)}, KvAll K B r s → KvAll K B (r.map fun kv => if kv.1 = k then (kv.1, v) else kv) (s.map fun kv => if kv.1 = k then (kv.1, d) else kv)
  | _, _, .nil => .nil
  | _, _, .cons (k := k') h t => by
    rw [List.map_cons, List.map_cons]
    by_cases e : k' = k
    · subst e
      simp only [if_true]
      exact .cons w (KvAll.map w t)
    · simp only [e, if_false]
      exact .cons h (KvAll.map w t)
theorem KvAll.put {K : PySem.W.Frag} {B : Hp} {k : Key} {v : V} {d : PyData} {r : List (Key × V)} {s : List (Key × PyData)} (t : KvAll K B r s) (w : Dp K B v d) : KvAll K B (putK r k v) (putD s k d) := by
  unfold putK putD
  rw [t.any]
  split
  · exact t.map w
  · exact t.append (.cons w .nil)
/-- d[k] = v, d of our own, k a text -/
theorem ds_dkPut {i : Nat} {kvs : List (Key × PyData)} {k : Str} {y : PyData} {pos' : Pos} (hu : X.A.units + 100 < cLine) (hz : kvs.length < 1000000) (hv : DE X ρ e (.d y) ρ1) (ho : DE X ρ1 a (.o i) ρ2) (hk : DE X ρ2 b (.d (.str k)) ρ3)
    (hs3 : ρ3[i]? = some (.o (.dk kvs)) := by rfl) (hs : swapsWith e (some (.Subscript a b pos')) pos.line X.env = pure false := by rfl) : DS X ρ (.Assign [.Subscript a b pos'] e pos) (.nx (ρ3.set i (.o (.dk (putD kvs (.inr k) y))))) := fun F Z B H σ D kk q =>
  ⟨_, ps_dput (by omega) pe_s pe_s pe_s hs, hv F Z B H σ _ kk fun v B1 H1 k1 x1 w1 => ho F Z B1 H1 σ _ k1 fun o B2 H2 k2 x2 w2 => hk F Z B2 H2 σ _ k2 fun iv B3 H3 k3 x3 w3 => by
    obtain ⟨v', as, g1, g2, g3⟩ := k3.ob (gS_some hs3)
    have w' : gV σ i = some o := w2
    rw [w'] at g1
    cases g1
    have d0 := g2
    have dv : Dp X.K B1 v y := w1
    cases w3
    cases g2 with
    | @dk aa r _ h t =>
    refine ⟨aa, _, rfl, DPut.k (k := .inr k) h (by rw [t.length]; exact Nat.lt_of_lt_of_le hz (by decide)), ?_⟩
    exact q B3 _ σ (k3.turn (gS_some hs3) w' d0 (.dk upd_same (t.put (dp_mono (x2.trans x3) dv))) fun c hc => by
      rw [upd_ne fun z => hc (by rw [z]; exact List.mem_singleton.mpr rfl)]) ((x1.trans x2).trans x3)⟩
theorem KvAll.at {K : PySem.W.Frag} {B : Hp} : ∀ {r : List (Key × V)} {s : List (Key × PyData)}, KvAll K B r s → DpAll K B (r.map (·.2)) (s.map (·.2)) ∧ r.map (·.1) = s.map (·.1)
  | _, _, .nil => ⟨.nil, rfl⟩
  | _, _, .cons h t => ⟨.cons h t.at.1, congrArg _ t.at.2⟩
theorem valV_nodup {κ : Type} [DecidableEq κ] : ∀ {r : List (κ × V)}, (r.map (·.1)).Nodup → ∀ {i : Nat} {k : κ} {v : V}, r[i]? = some (k, v) → valV r k = some v
  | [], _, _, _, _, h => by simp at h
  | (k0, v0) :: r, nd, 0, k, v, h => by
    have e : (k0, v0) = (k, v) := Option.some.inj h
    cases e
    exact valV_pos rfl
  | (k0, v0) :: r, nd, i + 1, k, v, h => by
    rw [List.map_cons, List.nodup_cons] at nd
    have hi : r[i]? = some (k, v) := h
    have ne : k0 ≠ k := fun e => nd.1 (by rw [e]; exact List.mem_map.mpr ⟨(k, v), List.mem_of_getElem? hi, rfl⟩)
    have q := valV_nodup nd.2 hi
    unfold valV at q ⊢
    rw [List.find?_cons]
    simp only [ne, decide_false]
    exact q
/-- [d[k] for k in d] -/
theorem dl_lcKeys {i j : Nat} {x y : Str} {kvs : List (Key × PyData)} {scope : Scope} {own : List (Str × Nat)} {p1 p2 p3 p4 p5 : Pos} (hu : X.A.units + 100 < cLine) (hc : X.calm = true) (hN : X.N.Nodup) (ok : BlkOk X.N X.env.scope scope own) (ho : own.map (·.2) = [j]) (hij : i ≠ j)
    (nd : (kvs.map (·.1)).Nodup) (hz : kvs.length < 1000000) (hsi : ρ[i]? = some (.o (.dk kvs)) := by rfl) (hNi : X.N[i]? = some x := by rfl) (hNj : X.N[j]? = some y := by rfl) (hvi : Vis X.env.scope x := by first | exact Or.inl rfl | exact Or.inr (Or.inl rfl) | exact Or.inr (Or.inr rfl))
    (hb1 : Blk X scope fun Y => PE Y (.Name x p1) (tVar i)) (hb2 : Blk X scope fun Y => PE Y (.Name y p2) (tVar j)) (hb3 : Blk X scope fun Y => PG Y (.Name y p3) (gName j)) (hlj : j < ρ.length)
    (hd : (x == ("__debug__" : Str)) = false := by decide) (hcd : (x == ("__classdict__" : Str)) = false := by decide) (hnl : NoSl (.Name y p2) := by intro _ _; rfl) (hfs : ∀ v, foldedSetIterable (.Name x p4) X.env v = pure v := by intro _; rfl) :
    DL X ρ (.ListComp (.Subscript (.Name x p1) (.Name y p2) p5) [⟨.Name y p3, .Name x p4, [], 0⟩] scope pos) (kvs.map (·.2)) ρ := fun F Z B H σ Q k q =>
  ⟨_, pe_lock (pe_lc hc hN (pi_keys (pe_var hNi hvi hd hcd)) ok hb3 (fun _ _ _ _ _ => pts_nil) (fun s H C cl fp => pe_dget (by show X.A.units + 1 < cLine; omega) (hb1 s H C cl fp) (hb2 s H C cl fp) hnl) hfs), by
    obtain ⟨v, as, g1, g2, g3⟩ := k.ob (gS_some hsi)
    cases g2 with
    | @dk a r _ h t =>
    refine ⟨a, _, h, trivial, fun od => ?_⟩
    refine ⟨.ref a, gV_some g1, a, od, rfl, .inl ⟨r, upd_same, fun D hD => ?_⟩⟩
    have nDa : D ≠ a := fun e => by rw [e, upd_same] at hD; cases hD
    have hD0 : H D = none := by rw [upd_ne nDa] at hD; exact hD
    rw [ho]
    have nd' : (r.map (·.1)).Nodup := by rw [t.at.2]; exact nd
    refine lc_it walk_keys (fun m H' => H' = upd (upd H a (.frz od (.dK r))) D (.lst ((r.map (·.2)).take m))) rfl (fun m H' _ e => by rw [e, upd_ne (Ne.symm nDa)]; exact upd_same) ?_ ?_
    · rintro m x' H' H2 hm e ⟨rfl, kk, vv, hkv, rfl⟩
      have wj : wipe ((wipe σ [j]).set j (some (kV kk))) [j] = wipe σ [j] := by
        rw [wipe_set (by simp)]
        show ((σ.set j none).set j none) = σ.set j none
        rw [List.set_set]
      refine ⟨wj, ?_⟩
      unfold tYes; show ite (true = true) _ _
      rw [if_pos rfl]
      have vi : ((wipe σ [j]).set j (some (kV kk)))[i]? = some (some (.ref a)) := by
        rw [List.getElem?_set_ne (Ne.symm hij), wipe_out (by simpa using hij)]
        exact gV_some g1
      have vj : ((wipe σ [j]).set j (some (kV kk)))[j]? = some (some (kV kk)) := List.getElem?_set_self (by rw [wipe_length, k.len]; exact hlj)
      refine ⟨.ref a, vi, kV kk, vj, a, vv, rfl, .inl ⟨r, kk, .inr ⟨od, by rw [e, upd_ne (Ne.symm nDa)]; exact upd_same⟩, rfl, (valV_nodup nd' hkv).symm⟩, (r.map (·.2)).take m, by rw [e]; exact upd_same, ?_, ?_⟩
      · have hl : ((r.map (·.2)).take m).length ≤ r.length := by simp; omega
        have := t.length
        have z : (1000000 : Nat) ≤ sizeLine := by decide
        omega
      · rw [e]
        have e2 : (r.map (·.2)).take (m + 1) = (r.map (·.2)).take m ++ [vv] := by
          rw [List.take_add_one, List.getElem?_map, hkv]
          rfl
        rw [e2]
        funext b
        by_cases eb : b = D
        · subst eb; rw [upd_same, upd_same]
        · rw [upd_ne eb, upd_ne eb, upd_ne eb]
    · intro H' e
      refine ⟨by rw [e, upd_ne (Ne.symm nDa)]; exact upd_same, ?_⟩
      have e2 : upd H' a (.dK r) = upd H D (.lst (r.map (·.2))) := by
        rw [e]
        funext b
        by_cases eb : b = a
        · subst eb; rw [upd_same, upd_ne (Ne.symm nDa)]; exact h.symm
        · rw [upd_ne eb]
          by_cases ed : b = D
          · subst ed
            rw [upd_same, upd_same, List.take_of_length_le (by simp)]
          · rw [upd_ne ed, upd_ne ed, upd_ne eb]
      rw [e2]
      exact q D _ B _ (k.loose hD0 _) (Sub.refl B) (k.laid hD0 _) upd_same t.at.1⟩
end
end G
namespace G
open PySem L2 PySem.Spec PyProof.Rows
section
variable {X : Cx} {ρ : Env'} {pos : Pos}
theorem nv (i : Nat) {x : Str} {y : PyData} (hs : ρ[i]? = some (.d y) := by rfl) (hN : X.N[i]? = some x := by rfl) (hv : Vis X.env.scope x := by first | exact Or.inl rfl | exact Or.inr (Or.inl rfl) | exact Or.inr (Or.inr rfl)) (hd : (x == ("__debug__" : Str)) = false := by decide)
    (hcd : (x == ("__classdict__" : Str)) = false := by decide) : DE X ρ (.Name x pos) (.d y) ρ := de_name hs hN hv hd hcd
theorem ow (i : Nat) {x : Str} {b : Ob} (hs : ρ[i]? = some (.o b) := by rfl) (hN : X.N[i]? = some x := by rfl) (hv : Vis X.env.scope x := by first | exact Or.inl rfl | exact Or.inr (Or.inl rfl) | exact Or.inr (Or.inr rfl)) (hd : (x == ("__debug__" : Str)) = false := by decide)
    (hcd : (x == ("__classdict__" : Str)) = false := by decide) : DE X ρ (.Name x pos) (.o i) ρ := de_own hs hN hv hd hcd
variable {st : Stmt} {sts : List Stmt} {o : O} {ρ1 ρ2 : Env'} {e : Expr}
/-- the slots, said otherwise -/
theorem db_at (ρ2 : Env') (e : ρ = ρ2) (h : DB X ρ2 sts o) : DB X ρ sts o := e ▸ h
theorem de_at {r : R} (ρ2 : Env') (e' : ρ = ρ2) (h : DE X ρ2 e r ρ1) : DE X ρ e r ρ1 := e' ▸ h
theorem db_rt_is {d d' : PyData} (h : DB X ρ sts (.rt d ρ1)) (e : d = d') : DB X ρ sts (.rt d' ρ1) := e ▸ h
end
end G
namespace G
open PySem L2 PySem.Spec PyProof.Rows
section
variable {X : Cx} {ρ ρ' ρ1 ρ2 ρt ρe : Env'} {a b c e elt tg iter : Expr} {es : List Expr} {pos : Pos} {st : Stmt} {rest sts body : List Stmt} {o : O} {xs ys : List PyData}
theorem db_nx (h : DS X ρ st (.nx ρ1)) (w : Wk ρ1 ρ2 := by first | exact G.Wk.refl _ | (repeat (first | exact G.Wk.nil | apply G.Wk.cons | apply G.Wk.drop))) : DB X ρ [st] (.nx ρ2) := db_weak (db_one h) w
theorem db_end (w : Wk ρ ρ2 := by first | exact G.Wk.refl _ | (repeat (first | exact G.Wk.nil | apply G.Wk.cons | apply G.Wk.drop))) : DB X ρ [] (.nx ρ2) := db_weak db_nil w
/-- for, all turns go on -/
theorem ds_for (hp : PassesOwn (model X.prog X.w) X.A X.env X.xe) (hc : X.calm = true) (hi : DI X ρ tg iter xs ρ1) (ρs : Nat → Env') (h0 : Wk ρ1 (ρs 0))
    (turn : ∀ i x, xs[i]? = some x → ∃ ρt js, DG X (ρs i) tg x js ρt ∧ DB X ρt body (.nx (ρs (i + 1)))) (he : ρs xs.length = ρ2)
    (hs : ∀ x, foldedSetIterable iter X.env x = pure x := by intro _; rfl) : DS X ρ (.For tg iter body [] pos) (.nx ρ2) := by
  subst he
  refine for_goes hp hc hi ρs h0 (fun i x hx => ?_) hs
  obtain ⟨ρt, js, h1, h2⟩ := turn i x hx
  exact ⟨ρt, js, _, h1, .inl h2, .refl _⟩
theorem wipeE_at {vs : List Nat} {j : Nat} : (j ∈ vs → gS (wipeE ρ vs) j = .un) ∧ (j ∉ vs → gS (wipeE ρ vs) j = gS ρ j) := by
  induction vs with
  | nil => exact ⟨fun h => (nomatch h), fun _ => rfl⟩
  | cons v vs ih =>
    unfold wipeE
    rw [gS_set]
    by_cases e : j = v
    · subst e
      refine ⟨fun _ => ?_, fun h => absurd List.mem_cons_self h⟩
      split
      · rfl
      · rename_i h
        have hl : ¬ j < (wipeE ρ vs).length := by simpa using h
        unfold gS
        rw [List.getElem?_eq_none (Nat.le_of_not_lt hl)]; rfl
    · have : ¬ (j = v ∧ v < (wipeE ρ vs).length) := fun h => e h.1
      rw [if_neg this]
      refine ⟨fun h => ih.1 ((List.mem_cons.mp h).resolve_left e), fun h => ih.2 fun z => h (List.mem_cons_of_mem _ z)⟩
theorem wipeE_wk {vs : List Nat} (h : ∀ j ∈ vs, gS ρ j = .un) : Wk (wipeE ρ vs) ρ := ⟨wipeE_len vs, fun i => by
  by_cases m : i ∈ vs
  · exact .inr (h i m)
  · exact .inl (wipeE_at.2 m).symm⟩
theorem fm_map {α β : Type} (g : α → β) (xs : List α) : (List.range xs.length).filterMap (fun i => xs[i]?.bind fun x => some (g x)) = xs.map g := by
  rw [fm_at]
  induction xs with
  | nil => rfl
  | cons x xs ih => simp
/-- [elt for tg in iter], the parts change nothing -/
theorem dl_map {scope : Scope} (own : List (Str × Nat)) (g : PyData → PyData) (hc : X.calm = true) (hN : X.N.Nodup) (ok : BlkOk X.N X.env.scope scope own) (hi : DI X ρ tg iter xs ρ1) (hv : ∀ j ∈ own.map (·.2), gS ρ1 j = .un)
    (turn : ∀ x ∈ xs, ∃ ρt js ρe, (Blk X scope fun Y => DG Y ρ1 tg x js ρt) ∧ (Blk X scope fun Y => DE Y ρt elt (.d (g x)) ρe) ∧ (∀ j ∈ js, j ∈ own.map (·.2)) ∧ Wk ρe ρ1) (hz : xs.length ≤ sizeLine)
    (hs : ∀ x, foldedSetIterable iter X.env x = pure x := by intro _; rfl) : DL X ρ (.ListComp elt [⟨tg, iter, [], 0⟩] scope pos) (xs.map g) ρ1 := by
  rw [← fm_map g xs]
  refine dl_lc hc hN ok hi (fun _ => ρ1) _ (fun i x hx => ?_) (wipeE_wk hv) (fun _ => wipeE_wk hv) (mrg_un rfl hv) hz hs
  obtain ⟨ρt, js, ρe, h1, h2, h3, h4⟩ := turn x (List.mem_of_getElem? hx)
  rw [hx]
  exact LcT.map h3 h1 h2 h4
theorem fm_filt {α β : Type} (p : α → Bool) (g : α → β) (xs : List α) : (List.range xs.length).filterMap (fun i => xs[i]?.bind fun x => if p x then some (g x) else none) = (xs.filter p).map g := by
  rw [fm_at]
  induction xs with
  | nil => rfl
  | cons x xs ih =>
    rw [List.filterMap_cons, List.filter_cons, ih]
    cases p x <;> rfl
/-- [elt for tg in iter if c], the parts change nothing -/
theorem lc_filt_turn {scope : Scope} {own : List (Str × Nat)} {x : PyData} {p : PyData → Bool} {g : PyData → PyData} {js : List Nat} {ρa : Env'} (h1 : Blk X scope fun Y => DG Y ρ1 tg x js ρt) (h2 : Blk X scope fun Y => DT Y ρt c (p x) ρa)
    (h3 : p x = true → Blk X scope fun Y => DE Y ρa elt (.d (g x)) ρe) (hj : ∀ j ∈ js, j ∈ own.map (·.2)) (w : Wk ρe ρ1) (w' : Wk ρa ρ1) : LcT X scope (own.map (·.2)) tg [c] elt x ρ1 (if p x then some (g x) else none) ρ1 :=
  LcT.iff hj h1 h2 h3 (fun _ => w) (fun _ => w')
theorem dl_filt {scope : Scope} (own : List (Str × Nat)) (p : PyData → Bool) (g : PyData → PyData) (hc : X.calm = true) (hN : X.N.Nodup) (ok : BlkOk X.N X.env.scope scope own) (hi : DI X ρ tg iter xs ρ1) (hv : ∀ j ∈ own.map (·.2), gS ρ1 j = .un)
    (turn : ∀ x ∈ xs, LcT X scope (own.map (·.2)) tg [c] elt x ρ1 (if p x then some (g x) else none) ρ1) (hz : xs.length ≤ sizeLine)
    (hs : ∀ x, foldedSetIterable iter X.env x = pure x := by intro _; rfl) : DL X ρ (.ListComp elt [⟨tg, iter, [c], 0⟩] scope pos) ((xs.filter p).map g) ρ1 := by
  rw [← fm_filt p g xs]
  refine dl_lc hc hN ok hi (fun _ => ρ1) _ (fun i x hx => ?_) (wipeE_wk hv) (fun _ => wipeE_wk hv) (mrg_un rfl hv) hz hs
  rw [hx]
  exact turn x (List.mem_of_getElem? hx)
/-- x = [elt for tg in iter if c], swapped into its place -/
theorem ds_setFilt {i : Nat} {y : Str} {py spos : Pos} {s0 : Sl} {scope : Scope} (own : List (Str × Nat)) (p : PyData → Bool) (g : PyData → PyData) (hc : X.calm = true) (hN : X.N.Nodup) (ok : BlkOk X.N X.env.scope scope own)
    (hi : DI X ρ tg iter xs ρ1) (hv : ∀ j ∈ own.map (·.2), gS ρ1 j = .un)
    (turn : ∀ x ∈ xs, LcT X scope (own.map (·.2)) tg [c] elt x ρ1 (if p x then some (g x) else none) ρ1) (hz : xs.length ≤ sizeLine)
    (hsw : swapsWith (.ListComp elt [⟨tg, iter, [c], 0⟩] scope pos) (some (.Name y py)) spos.line X.env = pure true := by rfl)
    (hr : ρ1[i]? = some s0 := by rfl) (hy : X.N[i]? = some y := by rfl) (hyl : X.env.scope.names.lookup y = some .local := by rfl) (hs : ∀ x, foldedSetIterable iter X.env x = pure x := by intro _; rfl) :
    DS X ρ (.Assign [.Name y py] (.ListComp elt [⟨tg, iter, [c], 0⟩] scope pos) spos) (.nx (ρ1.set i (.o (.lst ((xs.filter p).map g))))) := by
  rw [← fm_filt p g xs]
  refine ds_setLc hc hN ok hsw hi (fun _ => ρ1) _ (fun i x hx => ?_) (wipeE_wk hv) (fun _ => wipeE_wk hv) (mrg_un rfl hv) hz hr hy hyl hs
  rw [hx]
  exact turn x (List.mem_of_getElem? hx)
theorem ds_setMap {i : Nat} {y : Str} {py spos : Pos} {s0 : Sl} {scope : Scope} (own : List (Str × Nat)) (g : PyData → PyData) (hc : X.calm = true) (hN : X.N.Nodup) (ok : BlkOk X.N X.env.scope scope own)
    (hi : DI X ρ tg iter xs ρ1) (hv : ∀ j ∈ own.map (·.2), gS ρ1 j = .un)
    (turn : ∀ x ∈ xs, ∃ ρt js ρe, (Blk X scope fun Y => DG Y ρ1 tg x js ρt) ∧ (Blk X scope fun Y => DE Y ρt elt (.d (g x)) ρe) ∧ (∀ j ∈ js, j ∈ own.map (·.2)) ∧ Wk ρe ρ1) (hz : xs.length ≤ sizeLine)
    (hsw : swapsWith (.ListComp elt [⟨tg, iter, [], 0⟩] scope pos) (some (.Name y py)) spos.line X.env = pure true := by rfl)
    (hr : ρ1[i]? = some s0 := by rfl) (hy : X.N[i]? = some y := by rfl) (hyl : X.env.scope.names.lookup y = some .local := by rfl) (hs : ∀ x, foldedSetIterable iter X.env x = pure x := by intro _; rfl) :
    DS X ρ (.Assign [.Name y py] (.ListComp elt [⟨tg, iter, [], 0⟩] scope pos) spos) (.nx (ρ1.set i (.o (.lst (xs.map g))))) := by
  rw [← fm_map g xs]
  refine ds_setLc hc hN ok hsw hi (fun _ => ρ1) _ (fun i x hx => ?_) (wipeE_wk hv) (fun _ => wipeE_wk hv) (mrg_un rfl hv) hz hr hy hyl hs
  obtain ⟨ρt, js, ρe, h1, h2, h3, h4⟩ := turn x (List.mem_of_getElem? hx)
  rw [hx]
  exact LcT.map h3 h1 h2 h4
end
end G
namespace G
open PySem L2 PySem.Spec PyProof.Rows
section
variable {X : Cx} {ρ ρ' ρ1 ρ2 : Env'} {a b c e : Expr} {pos : Pos} {st : Stmt} {rest sts as bs : List Stmt} {o : O} {d : PyData}
theorem db_ifT (h : DT X ρ c true ρ1) (h1 : DB X ρ1 as (.rt d ρ')) : DB X ρ (.If c as [] pos :: rest) (.rt d ρ') := db_if h (fun _ => h1) (fun z => nomatch z) fun _ _ z => nomatch z
theorem db_ifF (h : DT X ρ c false ρ1) (h1 : DB X ρ1 rest o) : DB X ρ (.If c as [] pos :: rest) o := db_if h (fun z => nomatch z) (fun _ => h1) fun z => nomatch z
theorem ds_ifT (h : DT X ρ c true ρ1) (h1 : DB X ρ1 as o) : DS X ρ (.If c as bs pos) o := ds_if h (fun _ => h1) fun z => nomatch z
theorem ds_ifF (h : DT X ρ c false ρ1) (h1 : DB X ρ1 bs o) : DS X ρ (.If c as bs pos) o := ds_if h (fun z => nomatch z) fun _ => h1
theorem dt_eqIt {i j : Int} (h : i = j) (ha : DE X ρ a (.d (.int i)) ρ1) (hb : DE X ρ1 b (.d (.int j)) ρ2) : DT X ρ (.Compare a [.Eq] [b] pos) true ρ2 := dt_is (dt_eqI ha hb) (decide_eq_true h)
theorem dt_eqIf {i j : Int} (h : i ≠ j) (ha : DE X ρ a (.d (.int i)) ρ1) (hb : DE X ρ1 b (.d (.int j)) ρ2) : DT X ρ (.Compare a [.Eq] [b] pos) false ρ2 := dt_is (dt_eqI ha hb) (decide_eq_false h)
theorem dt_ltT {i j : Int} (h : i < j) (ha : DE X ρ a (.d (.int i)) ρ1) (hb : DE X ρ1 b (.d (.int j)) ρ2) : DT X ρ (.Compare a [.Lt] [b] pos) true ρ2 := dt_is (dt_lt ha hb) (decide_eq_true h)
theorem dt_ltF {i j : Int} (h : ¬ i < j) (ha : DE X ρ a (.d (.int i)) ρ1) (hb : DE X ρ1 b (.d (.int j)) ρ2) : DT X ρ (.Compare a [.Lt] [b] pos) false ρ2 := dt_is (dt_lt ha hb) (decide_eq_false h)
end
end G

set_option Elab.async false
set_option linter.all false
set_option maxRecDepth 100000
set_option maxHeartbeats 4000000
/- a source whose cells have a name of their own for a while -/
namespace G
open PySem L2 PySem.Spec PyProof.Rows
section
variable {K : PySem.W.Frag} {F : Hp} {Z : Addr → Prop} {B H : Hp} {σ : L2.St} {ρ : Env'}
theorem Ok.ownAt (k : Ok K F Z B H σ ρ) {own : Nat → List Addr} (h3 : ∀ i, SlAt K B H (gV σ i) (own i) (gS ρ i)) {i : Nat} {b : Ob} {v : V} {as : List Addr} (hs : gS ρ i = .o b) (hv : gV σ i = some v) (h : ObAt K B H v as b) : own i = as := by
  have q := h3 i
  rw [hs, hv] at q
  generalize own i = os at q
  cases q with
  | o q => exact ObAt.uni q h fun _ _ => rfl
theorem Ok.split (k : Ok K F Z B H σ ρ) {i j : Nat} {a l : Addr} {st : Src} (hs : gS ρ i = .o (.src a st)) (hv : gV σ i = some (.ref a)) (hij : i ≠ j) (hj : j < ρ.length) (n : a ≠ l) (h1 : H a = some (.dK (srcKvs l st))) (h2 : H l = some (.lst (st.cells.map V.int))) :
    Ok K F Z B H (σ.set j (some (.ref l))) ((ρ.set i (.o (.srd a l st))).set j (.o (.lsA l st.cells))) := by
  obtain ⟨own, o1, o2, o3⟩ := k.own
  have oi : own i = [a, l] := k.ownAt o3 hs hv (.src n h1 h2)
  have hi : i < ρ.length := by
    rcases Nat.lt_or_ge i ρ.length with z | z
    · exact z
    · unfold gS at hs; rw [List.getElem?_eq_none z] at hs; cases hs
  have ma : a ∈ own i := by rw [oi]; simp
  have ml : l ∈ own i := by rw [oi]; simp
  refine ⟨k.exF, k.exB, k.z, by simp [k.len], fun m => if m = j then [l] else if m = i then [a] else own m, fun m b hb => ?_, fun m m' b hb hb' => ?_, fun m => ?_⟩
  · dsimp only at hb
    split at hb
    · rw [List.mem_singleton.mp hb]; exact o1 i l ml
    · split at hb
      · rw [List.mem_singleton.mp hb]; exact o1 i a ma
      · exact o1 m b hb
  · dsimp only at hb hb'
    have key : ∀ m, b ∈ (if m = j then [l] else if m = i then [a] else own m) → (m = j ∧ b = l) ∨ (m = i ∧ b = a) ∨ (m ≠ j ∧ m ≠ i ∧ b ∈ own m) := fun m h => by
      split at h
      · exact .inl ⟨by assumption, List.mem_singleton.mp h⟩
      · split at h
        · exact .inr (.inl ⟨by assumption, List.mem_singleton.mp h⟩)
        · exact .inr (.inr ⟨by assumption, by assumption, h⟩)
    rcases key m hb with ⟨e1, e2⟩ | ⟨e1, e2⟩ | ⟨e1, e2, e3⟩ <;> rcases key m' hb' with ⟨f1, f2⟩ | ⟨f1, f2⟩ | ⟨f1, f2, f3⟩
    · rw [e1, f1]
    · exact absurd (f2.symm.trans e2) n
    · exact absurd (o2 m' i b f3 (by rw [e2]; exact ml)) f2
    · exact absurd (e2.symm.trans f2) n
    · rw [e1, f1]
    · exact absurd (o2 m' i b f3 (by rw [e2]; exact ma)) f2
    · exact absurd (o2 m i b e3 (by rw [f2]; exact ml)) e2
    · exact absurd (o2 m i b e3 (by rw [f2]; exact ma)) e2
    · exact o2 m m' b e3 f3
  · rw [gS_set, gV_set, gS_set, List.length_set, k.len]
    dsimp only
    by_cases e : m = j
    · rw [if_pos e, if_pos (And.intro e hj), if_pos (And.intro e hj)]
      exact .o (.lsA h2)
    · have ne : ¬ (m = j ∧ j < ρ.length) := fun z => e z.1
      rw [if_neg e, if_neg ne, if_neg ne]
      by_cases e' : m = i
      · rw [if_pos e', if_pos (And.intro e' hi), e', hv]
        exact .o (.srd n h1)
      · have ne' : ¬ (m = i ∧ i < ρ.length) := fun z => e' z.1
        rw [if_neg e', if_neg ne']
        exact o3 m
theorem Ok.join (k : Ok K F Z B H σ ρ) {i j : Nat} {a l : Addr} {st : Src} {xs : List Int} (hs : gS ρ i = .o (.srd a l st)) (hs2 : gS ρ j = .o (.lsA l xs)) : Ok K F Z B H σ ((ρ.set i (.o (.src a { st with cells := xs }))).set j .un) := by
  obtain ⟨own, o1, o2, o3⟩ := k.own
  obtain ⟨v, as, g1, g2, g3⟩ := k.ob hs
  obtain ⟨v2, as2, f1, f2, f3⟩ := k.ob hs2
  have oi := k.ownAt o3 hs g1 g2
  have oj := k.ownAt o3 hs2 f1 f2
  cases g2 with
  | srd n h1 =>
  cases f2 with
  | lsA h2 =>
  have hij : i ≠ j := fun e => by rw [e, hs2] at hs; cases hs
  have hi : i < ρ.length := by
    rcases Nat.lt_or_ge i ρ.length with z | z
    · exact z
    · unfold gS at hs; rw [List.getElem?_eq_none z] at hs; cases hs
  have hj : j < ρ.length := by
    rcases Nat.lt_or_ge j ρ.length with z | z
    · exact z
    · unfold gS at hs2; rw [List.getElem?_eq_none z] at hs2; cases hs2
  have ma : a ∈ own i := by rw [oi]; simp
  have ml : l ∈ own j := by rw [oj]; simp
  refine ⟨k.exF, k.exB, k.z, by simp [k.len], fun m => if m = j then [] else if m = i then [a, l] else own m, fun m b hb => ?_, fun m m' b hb hb' => ?_, fun m => ?_⟩
  · dsimp only at hb
    split at hb
    · cases hb
    · split at hb
      · rcases List.mem_cons.mp hb with e | e
        · rw [e]; exact o1 i a ma
        · rw [List.mem_singleton.mp e]; exact o1 j l ml
      · exact o1 m b hb
  · dsimp only at hb hb'
    have key : ∀ m, b ∈ (if m = j then [] else if m = i then [a, l] else own m) → (m = i ∧ (b = a ∨ b = l)) ∨ (m ≠ j ∧ m ≠ i ∧ b ∈ own m) := fun m h => by
      split at h
      · cases h
      · split at h
        · exact .inl ⟨by assumption, by simpa using h⟩
        · exact .inr ⟨by assumption, by assumption, h⟩
    have cross : ∀ {m}, m ≠ j → m ≠ i → b ∈ own m → ¬ (b = a ∨ b = l) := fun {m} n1 n2 h z => by
      rcases z with z | z
      · exact n2 (o2 m i b h (by rw [z]; exact ma))
      · exact n1 (o2 m j b h (by rw [z]; exact ml))
    rcases key m hb with ⟨e1, e2⟩ | ⟨e1, e2, e3⟩ <;> rcases key m' hb' with ⟨f1, f2⟩ | ⟨f1, f2, f3⟩
    · rw [e1, f1]
    · exact absurd e2 (cross f1 f2 f3)
    · exact absurd f2 (cross e1 e2 e3)
    · exact o2 m m' b e3 f3
  · rw [gS_set, gS_set, List.length_set]
    dsimp only
    by_cases e : m = j
    · rw [if_pos e, if_pos (And.intro e hj)]
      exact .un
    · have ne : ¬ (m = j ∧ j < ρ.length) := fun z => e z.1
      rw [if_neg e, if_neg ne]
      by_cases e' : m = i
      · rw [if_pos e', if_pos (And.intro e' hi), e', g1]
        exact .o (.src n h1 h2)
      · have ne' : ¬ (m = i ∧ i < ρ.length) := fun z => e' z.1
        rw [if_neg e', if_neg ne']
        exact o3 m
end
section
variable {X : Cx} {ρ ρ' ρ1 ρ2 ρ3 : Env'} {a b c e : Expr} {es : List Expr} {pos p p1 p2 p3 : Pos} {i : Nat} {sa : Addr} {st : Src} {rest sts : List Stmt} {o : O}
theorem db_join {j : Nat} {l : Addr} {xs : List Int} (t : DB X ((ρ.set i (.o (.src sa { st with cells := xs }))).set j .un) sts o) (hs : ρ[i]? = some (.o (.srd sa l st)) := by rfl) (hs2 : ρ[j]? = some (.o (.lsA l xs)) := by rfl) : DB X ρ sts o := fun F Z B H σ D k q =>
  t F Z B H σ D (k.join (gS_some hs) (gS_some hs2)) q
/-- cells = source["cells"] -/
theorem db_split {j : Nat} {y : Str} {jj} {s0 : Sl} {pos' : Pos} (hu : X.A.units + 100 < cLine) (hN : X.N.Nodup) (h : DE X ρ e (.o i) ρ) (hij : i ≠ j) (t : ∀ l, DB X ((ρ.set i (.o (.srd sa l st))).set j (.o (.lsA l st.cells))) rest o) (hs : ρ[i]? = some (.o (.src sa st)) := by rfl) (hr : ρ[j]? = some s0 := by rfl)
    (hi : X.N[j]? = some y := by rfl) (hx : Loc X.env.scope y := by first | exact Or.inl rfl | exact Or.inr rfl) (hsl : NoSl (.Constant (.str "cells") jj p1) := by intro _ _; rfl)
    (hsw : swapsWith (.Subscript e (.Constant (.str "cells") jj p1) p2) (some (.Name y pos')) pos.line X.env = pure false := by rfl) (hf : X.fn y = true ∨ X.env.scope.names.lookup y = some .local := by first | exact .inl rfl | exact .inr rfl) :
    DB X ρ (.Assign [.Name y pos'] (.Subscript e (.Constant (.str "cells") jj p1) p2) pos :: rest) o := fun F Z B H σ D k q =>
  ⟨_, pss_cons (ps_set hN hi hx (pe_dget (by omega) pe_s pe_str hsl) hsw hf) pb_s, h F Z B H σ _ k fun v B1 H1 k1 x1 w => by
    obtain ⟨v', as, g1, g2, _⟩ := k1.ob (gS_some hs)
    have w' : gV σ i = some v := w
    rw [w'] at g1
    cases g1
    cases g2 with
    | @src _ l _ n1 n2 n3 =>
    have g := DGet.k (k := kCells) n2
    rw [src_cells] at g
    exact ⟨sa, .ref l, rfl, g, t l F Z B1 H1 _ D (k1.split (gS_some hs) w' hij (List.getElem?_eq_some_iff.mp hr).1 n1 n2 n3) (q.sub x1)⟩⟩
theorem de_srdGet {key : Str} {n : Int} {jj} {l : Addr} (hu : X.A.units + 100 < cLine) (hv : ∀ l, valV (srcKvs l st) (.inr key) = some (.int n)) (h : DE X ρ e (.o i) ρ1) (hs : ρ1[i]? = some (.o (.srd sa l st)) := by rfl) (hsl : NoSl (.Constant (.str key) jj p1) := by intro _ _; rfl) :
    DE X ρ (.Subscript e (.Constant (.str key) jj p1) pos) (.d (.int n)) ρ1 := fun F Z B H σ Q k q =>
  ⟨_, pe_dget (by omega) pe_s pe_str hsl, h F Z B H σ _ k fun v B1 H1 k1 x1 w => by
    obtain ⟨v', as, g1, g2, _⟩ := k1.ob (gS_some hs)
    have w' : gV σ i = some v := w
    rw [w'] at g1
    cases g1
    cases g2 with
    | srd n1 n2 =>
    refine ⟨sa, .int n, rfl, ?_, q _ B1 H1 k1 x1 (.int n)⟩
    have g := DGet.k (k := (.inr key : Key)) n2
    rw [hv l] at g
    exact g⟩
/-- len(cells) -/
theorem de_lenA {l : Addr} {xs : List Int} (hm : X.mg "len" = none) (h : DE X ρ e (.o i) ρ1) (hs : ρ1[i]? = some (.o (.lsA l xs)) := by rfl) (hg : Gl X "len" := by rfl)
    (he : starEach [e] X.env = (false, eval e X.env) :: starEach [] X.env := by rfl) (hpl : (backTo pos (starEach [] X.env)).any (·.1) = false := by rfl) : DE X ρ (.Call (.Name "len" p) [e] [] pos) (.d (.int xs.length)) ρ1 := fun F Z B H σ Q k q =>
  ⟨_, pe_callB call_len_seq hg hm PySem.boot_len (pa_cons pe_s pa_nil he) (by decide) (by decide) he hpl, h F Z B H σ _ k fun v B1 H1 k1 x1 w => by
    obtain ⟨v', as, g1, g2, _⟩ := k1.ob (gS_some hs)
    have w' : gV σ i = some v := w
    rw [w'] at g1
    cases g1
    cases g2 with
    | lsA n1 => exact ⟨l, _, rfl, .inl (SqL.of n1), by rw [List.length_map]; exact q _ B1 H1 k1 x1 (.int _)⟩⟩
/-- source["left"] = cells.pop() -/
theorem ds_popA {j : Nat} {jj2} {l : Addr} {cs : List Int} {n : Int} {apos pos' : Pos} (hu : X.A.units + 100 < cLine) (hij : i ≠ j) (h : DE X ρ e (.o j) ρ) (h2 : DE X (ρ.set j (.o (.lsA l cs))) a (.o i) (ρ.set j (.o (.lsA l cs)))) (hs : ρ[j]? = some (.o (.lsA l (cs ++ [n]))) := by rfl) (hs2 : (ρ.set j (.o (.lsA l cs)))[i]? = some (.o (.srd sa l st)) := by rfl)
    (hbase : attributeBase e "pop" X.env (eval e X.env) = eval e X.env := by rfl) (hline : (apos.endLine == p3.line) = true := by rfl)
    (hsw : swapsWith (.Call (.Attribute e "pop" apos) [] [] p3) (some (.Subscript a (.Constant (.str "left") jj2 p) pos')) pos.line X.env = pure false := by rfl) :
    DS X ρ (.Assign [.Subscript a (.Constant (.str "left") jj2 p) pos'] (.Call (.Attribute e "pop" apos) [] [] p3) pos) (.nx ((ρ.set j (.o (.lsA l cs))).set i (.o (.srd sa l { st with left := n })))) := fun F Z B H σ D k q =>
  ⟨_, ps_dput (by omega) pe_s pe_str (pe_bm0 PySem.F.plainAttrs_list PySem.F.slot_list_pop PySem.F.type_list_pop mt_pop pe_s hbase hline) hsw, h F Z B H σ _ k fun v B1 H1 k1 x1 w => by
    obtain ⟨v', as, g1, g2, _⟩ := k1.ob (gS_some hs)
    have w' : gV σ j = some v := w
    rw [w'] at g1
    cases g1
    have dn0 := g2
    cases g2 with
    | lsA n1 =>
    have e1 : (cs ++ [n]).map V.int = cs.map V.int ++ [V.int n] := by simp
    rw [e1] at n1
    refine ⟨.inl ⟨rfl, _, SqL.of n1⟩, l, _, .int n, rfl, rfl, n1, by simp, ?_⟩
    have e2 : (cs.map V.int ++ [V.int n]).dropLast = cs.map V.int := by simp
    rw [e2]
    have k2 := k1.turn (H' := upd H1 l (.lst (cs.map V.int))) (b' := .lsA l cs) (gS_some hs) w' dn0 (.lsA upd_same) fun b hb => by
      rw [upd_ne fun z => hb (by rw [z]; exact List.mem_singleton.mpr rfl)]
    refine h2 F Z B1 _ σ _ k2 fun o B3 H3 k3 x3 w3 => ?_
    obtain ⟨v', as, g1, g2, _⟩ := k3.ob (gS_some hs2)
    have w3' : gV σ i = some o := w3
    rw [w3'] at g1
    cases g1
    have dn1 := g2
    cases g2 with
    | srd m1 m2 =>
    have hz : (srcKvs l st).length < sizeLine := by rw [sizeLine_eq]; show 4 < 16777216; omega
    have gp := DPut.k (k := kLeft) (v := .int n) m2 hz
    rw [put_left] at gp
    refine ⟨sa, _, rfl, gp, ?_⟩
    have k4 := k3.turn (H' := upd H3 sa (.dK (srcKvs l { st with left := n }))) (b' := .srd sa l { st with left := n }) (gS_some hs2) w3' dn1 (.srd m1 upd_same) fun b hb => by
      rw [upd_ne fun z => hb (by rw [z]; exact List.mem_singleton.mpr rfl)]
    exact q B3 _ σ k4 (x1.trans x3)⟩
end
end G

set_option Elab.async false
set_option linter.all false
set_option maxRecDepth 100000
set_option maxHeartbeats 4000000
/- types of words: sorted sets of triples -/
namespace G
open PySem PySem.W PyProof.Rows
theorem datas_map : ∀ ks : List NestedKey, NestedKey.datas ks = ks.map NestedKey.data
  | [] => by simp [NestedKey.datas]
  | k :: ks => by rw [NestedKey.datas, datas_map ks]; rfl
mutual
theorem nk_eqv : ∀ a b : NestedKey, PyData.eqv a.data b.data = true → a = b
  | .none, b, h => by cases b <;> simp [NestedKey.data, PyData.eqv] at h ⊢
  | .num i, b, h => by
    cases b with
    | num j => simp [NestedKey.data, PyData.eqv] at h; rw [h]
    | none => simp [NestedKey.data, PyData.eqv] at h
    | text _ => simp [NestedKey.data, PyData.eqv] at h
    | tup _ => simp [NestedKey.data, PyData.eqv] at h
  | .text x, b, h => by
    cases b with
    | text y => simp [NestedKey.data, PyData.eqv] at h; rw [h]
    | none => simp [NestedKey.data, PyData.eqv] at h
    | num _ => simp [NestedKey.data, PyData.eqv] at h
    | tup _ => simp [NestedKey.data, PyData.eqv] at h
  | .tup as, b, h => by
    cases b with
    | tup bs =>
      simp only [NestedKey.data, PyData.eqv] at h
      rw [nk_eqvAll as bs h]
    | none => simp [NestedKey.data, PyData.eqv] at h
    | num _ => simp [NestedKey.data, PyData.eqv] at h
    | text _ => simp [NestedKey.data, PyData.eqv] at h
theorem nk_eqvAll : ∀ as bs : List NestedKey, PyData.eqvAll (NestedKey.datas as) (NestedKey.datas bs) = true → as = bs
  | [], [], _ => rfl
  | [], _ :: _, h => by simp [NestedKey.datas, PyData.eqvAll] at h
  | _ :: _, [], h => by simp [NestedKey.datas, PyData.eqvAll] at h
  | a :: as, b :: bs, h => by
    simp only [NestedKey.datas, PyData.eqvAll, Bool.and_eq_true] at h
    rw [nk_eqv a b h.1, nk_eqvAll as bs h.2]
end
mutual
theorem nk_self : ∀ a : NestedKey, PyData.eqv a.data a.data = true
  | .none => by simp [NestedKey.data, PyData.eqv]
  | .num _ => by simp [NestedKey.data, PyData.eqv]
  | .text _ => by simp [NestedKey.data, PyData.eqv]
  | .tup as => by simp only [NestedKey.data, PyData.eqv]; exact nk_selfAll as
theorem nk_selfAll : ∀ as : List NestedKey, PyData.eqvAll (NestedKey.datas as) (NestedKey.datas as) = true
  | [] => by simp [NestedKey.datas, PyData.eqvAll]
  | a :: as => by simp only [NestedKey.datas, PyData.eqvAll, nk_self a, nk_selfAll as]; rfl
end
theorem eqv_nk (a b : NestedKey) : PyData.eqv a.data b.data = decide (a = b) := by
  cases h : PyData.eqv a.data b.data with
  | true => exact (decide_eq_true (nk_eqv a b h)).symm
  | false => exact (decide_eq_false fun e => by subst e; rw [nk_self] at h; cases h).symm
theorem nk_inj {a b : NestedKey} (h : a.data = b.data) : a = b := nk_eqv a b (by rw [h]; exact nk_self b)

/-! ### sorted sets of keys -/
def sortK (ks : List NestedKey) : List NestedKey := ks.mergeSort fun a b => dataLe false id a.data b.data
theorem sortK_data (ks : List NestedKey) : (sortK ks).map NestedKey.data = sortD (ks.map NestedKey.data) := List.map_mergeSort fun _ _ _ _ => rfl
theorem mem_sortK {k : NestedKey} {ks : List NestedKey} : k ∈ sortK ks ↔ k ∈ ks := (List.mergeSort_perm _ _).mem_iff
theorem dle_eq (a b : PyData) : dataLe false id a b = !dataLt b a := rfl
theorem dlt_asymm (a b : PyData) (h : dataLt a b = true) : dataLt b a = false := by
  cases e : dataLt b a with
  | false => rfl
  | true =>
    have q := (listOrd itemOrd).trans _ _ _ h e
    rw [(listOrd itemOrd).irrefl] at q
    cases q
theorem dle_trans (a b c : PyData) (h1 : dataLe false id a b = true) (h2 : dataLe false id b c = true) : dataLe false id a c = true := by
  rw [dle_eq] at *
  have h1' : dataLt b a = false := by simpa using h1
  have h2' : dataLt c b = false := by simpa using h2
  have q : dataLt c a = false := KeyOrd.kle_trans (O := listOrd itemOrd) (a := keyToks a) (b := keyToks b) (c := keyToks c) h1' h2'
  rw [q]; rfl
theorem dle_total (a b : PyData) : (dataLe false id a b || dataLe false id b a) = true := by
  rw [dle_eq, dle_eq]
  cases e : dataLt b a with
  | false => rfl
  | true => rw [dlt_asymm b a e]; rfl
theorem toks_inj {x y : PyData} (h : alike x y = true) (e : keyToks x = keyToks y) : PyData.eqv x y = true := by
  cases q : PyData.eqv x y with
  | true => rfl
  | false =>
    have z := (toks_eqv x y h).2 q [.inl 0] [.inl 1]
    rw [e, lex_pre, lex_irrefl] at z
    have z2 : PyProof.Rows.lexLt itemOrd [Sum.inl 0] [Sum.inl 1] = true := by decide
    rw [z2] at z
    cases z
theorem dle_antisymm {a b : NestedKey} (h : alike a.data b.data = true) (h1 : dataLe false id a.data b.data = true) (h2 : dataLe false id b.data a.data = true) : a = b := by
  rw [dle_eq] at *
  have h1' : dataLt b.data a.data = false := by simpa using h1
  have h2' : dataLt a.data b.data = false := by simpa using h2
  exact nk_eqv a b (toks_inj h ((listOrd itemOrd).total _ _ h2' h1'))
theorem sortK_ext {xs ys : List NestedKey} (hx : xs.Nodup) (hy : ys.Nodup) (hm : ∀ k, k ∈ xs ↔ k ∈ ys) (ha : ∀ a ∈ xs, ∀ b ∈ xs, alike a.data b.data = true) : sortK xs = sortK ys := by
  have p : (sortK xs).Perm (sortK ys) := ((List.mergeSort_perm _ _).trans ((List.perm_ext_iff_of_nodup hx hy).mpr hm)).trans (List.mergeSort_perm _ _).symm
  refine List.Perm.eq_of_pairwise (le := fun a b => dataLe false id a.data b.data = true) (fun a b h1 h2 l1 l2 => dle_antisymm (ha a (mem_sortK.mp h1) b ((hm b).mpr (mem_sortK.mp h2))) l1 l2) ?_ ?_ p
  · exact List.pairwise_mergeSort (le := fun a b : NestedKey => dataLe false id a.data b.data) (fun a b c => dle_trans a.data b.data c.data) (fun a b => dle_total a.data b.data) xs
  · exact List.pairwise_mergeSort (le := fun a b : NestedKey => dataLe false id a.data b.data) (fun a b c => dle_trans a.data b.data c.data) (fun a b => dle_total a.data b.data) ys

/-! ### sets, in the order in which they come -/
def addK (ks : List NestedKey) (k : NestedKey) : List NestedKey := if k ∈ ks then ks else ks ++ [k]
def setK (f : Nat → NestedKey) : Nat → List NestedKey
  | 0 => []
  | i + 1 => addK (setK f i) (f i)
theorem mem_addK {k k' : NestedKey} {ks : List NestedKey} : k ∈ addK ks k' ↔ k ∈ ks ∨ k = k' := by
  unfold addK
  split
  · rename_i h
    exact ⟨.inl, fun q => q.elim id fun e => e ▸ h⟩
  · simp
theorem addK_nodup {k : NestedKey} {ks : List NestedKey} (h : ks.Nodup) : (addK ks k).Nodup := by
  unfold addK
  split
  · exact h
  · rename_i hn
    rw [List.nodup_append]
    refine ⟨h, by simp, fun a ha b hb e => ?_⟩
    have : b = k := by simpa using hb
    exact hn (by rw [← this, ← e]; exact ha)
theorem addK_len {k : NestedKey} {ks : List NestedKey} : (addK ks k).length ≤ ks.length + 1 := by
  unfold addK
  split <;> simp
theorem mem_setK {k : NestedKey} {f : Nat → NestedKey} : ∀ {n : Nat}, k ∈ setK f n ↔ ∃ i, i < n ∧ f i = k
  | 0 => by simp [setK]
  | n + 1 => by
    unfold setK
    rw [mem_addK, mem_setK]
    constructor
    · rintro (⟨i, h, e⟩ | e)
      · exact ⟨i, by omega, e⟩
      · exact ⟨n, by omega, e.symm⟩
    · rintro ⟨i, h, e⟩
      by_cases hi : i = n
      · subst hi; exact .inr e.symm
      · exact .inl ⟨i, by omega, e⟩
theorem setK_nodup {f : Nat → NestedKey} : ∀ n : Nat, (setK f n).Nodup
  | 0 => by simp [setK]
  | n + 1 => addK_nodup (setK_nodup n)
theorem setK_len {f : Nat → NestedKey} : ∀ n : Nat, (setK f n).length ≤ n
  | 0 => by simp [setK]
  | n + 1 => Nat.le_trans addK_len (Nat.succ_le_succ (setK_len n))

/-! ### types of words -/
def keyK (T : List Int → NestedKey) (w : List Int) (i : Nat) : NestedKey := .tup [T (w.take i), .num (w.getD i 0), T (w.drop (i + 1))]
def tyK : Nat → List Int → NestedKey
  | 0, _ => .tup []
  | r + 1, w => .tup (sortK (setK (keyK (tyK r) w) w.length))
theorem alikeAll_of : ∀ {xs ys : List NestedKey}, (∀ a ∈ xs, ∀ b ∈ ys, alike a.data b.data = true) → alikeAll (NestedKey.datas xs) (NestedKey.datas ys) = true
  | [], _, _ => by simp [NestedKey.datas, alikeAll]
  | _ :: _, [], _ => by simp [NestedKey.datas, alikeAll]
  | x :: xs, y :: ys, h => by
    simp only [NestedKey.datas, alikeAll, h x List.mem_cons_self y List.mem_cons_self, alikeAll_of fun a ha b hb => h a (List.mem_cons_of_mem _ ha) b (List.mem_cons_of_mem _ hb)]
    rfl
theorem alike_key {T T' : List Int → NestedKey} (h : ∀ u v, alike (T u).data (T' v).data = true) (u v : List Int) (i j : Nat) : alike (keyK T u i).data (keyK T' v j).data = true := by
  unfold keyK
  simp only [NestedKey.data, NestedKey.datas, alike, alikeAll, h, Bool.and_self]
theorem alike_ty : ∀ (r : Nat) (u v : List Int), alike (tyK r u).data (tyK r v).data = true
  | 0, u, v => by simp [tyK, NestedKey.data, NestedKey.datas, alike, alikeAll]
  | r + 1, u, v => by
    unfold tyK
    simp only [NestedKey.data, alike]
    refine alikeAll_of fun a ha b hb => ?_
    obtain ⟨i, _, rfl⟩ := mem_setK.mp (mem_sortK.mp ha)
    obtain ⟨j, _, rfl⟩ := mem_setK.mp (mem_sortK.mp hb)
    exact alike_key (alike_ty r) u v i j
theorem depthAll_le {n : Nat} : ∀ {ks : List NestedKey}, (∀ k ∈ ks, k.depth ≤ n) → NestedKey.depthAll ks ≤ n
  | [], _ => by simp [NestedKey.depthAll]
  | k :: ks, h => by
    rw [NestedKey.depthAll]
    exact Nat.max_le.mpr ⟨h k List.mem_cons_self, depthAll_le fun a ha => h a (List.mem_cons_of_mem _ ha)⟩
theorem depth_key {T : List Int → NestedKey} {n : Nat} (h : ∀ u, (T u).depth ≤ n) (w : List Int) (i : Nat) : (keyK T w i).depth ≤ n + 1 := by
  unfold keyK
  simp only [NestedKey.depth, NestedKey.depthAll]
  have h1 := h (w.take i)
  have h2 := h (w.drop (i + 1))
  omega
theorem depth_ty : ∀ (r : Nat) (w : List Int), (tyK r w).depth ≤ 2 * r + 1
  | 0, w => by simp [tyK, NestedKey.depth, NestedKey.depthAll]
  | r + 1, w => by
    unfold tyK
    rw [NestedKey.depth]
    have : NestedKey.depthAll (sortK (setK (keyK (tyK r) w) w.length)) ≤ 2 * r + 2 := depthAll_le fun a ha => by
      obtain ⟨i, _, rfl⟩ := mem_setK.mp (mem_sortK.mp ha)
      exact depth_key (depth_ty r) w i
    omega

/-! ### lesser types -/
def les3 (f : NestedKey → NestedKey) : NestedKey → NestedKey
  | .tup [a, c, b] => .tup [f a, c, f b]
  | k => k
def parts : NestedKey → List NestedKey
  | .tup ks => ks
  | _ => []
def lesK : Nat → NestedKey → NestedKey
  | 0, _ => .tup []
  | 1, _ => .tup []
  | r + 2, k => .tup (sortK (setK (fun i => les3 (lesK (r + 1)) ((parts k).getD i .none)) (parts k).length))
theorem les_key {r : Nat} (h : ∀ w, lesK (r + 1) (tyK (r + 1) w) = tyK r w) (w : List Int) (i : Nat) : les3 (lesK (r + 1)) (keyK (tyK (r + 1)) w i) = keyK (tyK r) w i := by
  show NestedKey.tup [lesK (r + 1) (tyK (r + 1) (w.take i)), .num (w.getD i 0), lesK (r + 1) (tyK (r + 1) (w.drop (i + 1)))] = _
  rw [h, h]
  rfl
theorem les_ty : ∀ (r : Nat) (w : List Int), lesK (r + 1) (tyK (r + 1) w) = tyK r w
  | 0, w => rfl
  | r + 1, w => by
    have ih := les_ty r
    show NestedKey.tup (sortK (setK (fun i => les3 (lesK (r + 1)) ((parts (tyK (r + 2) w)).getD i .none)) (parts (tyK (r + 2) w)).length)) = .tup (sortK (setK (keyK (tyK r) w) w.length))
    have ep : parts (tyK (r + 2) w) = sortK (setK (keyK (tyK (r + 1)) w) w.length) := rfl
    rw [ep]
    generalize hL : sortK (setK (keyK (tyK (r + 1)) w) w.length) = L
    have hin : ∀ i, i < L.length → ∃ j, j < w.length ∧ keyK (tyK (r + 1)) w j = L.getD i .none := fun i hi => by
      have m : L.getD i .none ∈ L := by
        rw [List.getD_eq_getElem?_getD, List.getElem?_eq_getElem hi]
        exact List.getElem_mem hi
      have m2 : L.getD i .none ∈ sortK (setK (keyK (tyK (r + 1)) w) w.length) := by rw [hL]; exact m
      exact mem_setK.mp (mem_sortK.mp m2)
    congr 1
    refine sortK_ext (setK_nodup _) (setK_nodup _) (fun k => ?_) fun a ha b hb => ?_
    · rw [mem_setK, mem_setK]
      constructor
      · rintro ⟨i, hi, rfl⟩
        obtain ⟨j, hj, e⟩ := hin i hi
        exact ⟨j, hj, by rw [← e]; exact (les_key ih w j).symm⟩
      · rintro ⟨j, hj, rfl⟩
        have m : keyK (tyK (r + 1)) w j ∈ L := by rw [← hL]; exact mem_sortK.mpr (mem_setK.mpr ⟨j, hj, rfl⟩)
        obtain ⟨i, hi, e⟩ := List.mem_iff_getElem.mp m
        refine ⟨i, hi, ?_⟩
        rw [List.getD_eq_getElem?_getD, List.getElem?_eq_getElem hi]
        show les3 _ L[i] = _
        rw [e]
        exact les_key ih w j
    · obtain ⟨i, hi, rfl⟩ := mem_setK.mp ha
      obtain ⟨i', hi', rfl⟩ := mem_setK.mp hb
      obtain ⟨j, hj, e⟩ := hin i hi
      obtain ⟨j', hj', e'⟩ := hin i' hi'
      rw [← e, ← e', les_key ih, les_key ih]
      exact alike_key (alike_ty r) w w j j'

/-! ### which words are told apart -/
theorem ty_set {r : Nat} {u v : List Int} (h : tyK (r + 1) u = tyK (r + 1) v) (k : NestedKey) : k ∈ setK (keyK (tyK r) u) u.length ↔ k ∈ setK (keyK (tyK r) v) v.length := by
  have e : sortK (setK (keyK (tyK r) u) u.length) = sortK (setK (keyK (tyK r) v) v.length) := NestedKey.tup.inj h
  rw [← mem_sortK, e, mem_sortK]
theorem ty_nil {r : Nat} {v : List Int} (h : tyK (r + 1) [] = tyK (r + 1) v) : v = [] := by
  cases v with
  | nil => rfl
  | cons c v =>
    have q := (ty_set h (keyK (tyK r) (c :: v) 0)).mpr (mem_setK.mpr ⟨0, by simp, rfl⟩)
    obtain ⟨i, hi, _⟩ := mem_setK.mp q
    exact absurd hi (by simp)
theorem cut_at (w : List Int) {i : Nat} (h : i < w.length) : w = w.take i ++ w.getD i 0 :: w.drop (i + 1) := by
  rw [List.getD_eq_getElem?_getD, List.getElem?_eq_getElem h]
  show w = w.take i ++ w[i] :: w.drop (i + 1)
  rw [List.getElem_cons_drop, List.take_append_drop]
theorem ty_inj : ∀ (r : Nat) (u v : List Int), u.length < 2 ^ r → tyK (r + 1) u = tyK (r + 1) v → u = v
  | 0, u, v, hl, h => by
    have : u = [] := List.length_eq_zero_iff.mp (by simpa using hl)
    subst this
    exact (ty_nil h).symm
  | r + 1, u, v, hl, h => by
    by_cases hu : u = []
    · subst hu; exact (ty_nil h).symm
    · have hp : 0 < u.length := List.length_pos_iff.mpr hu
      have e2 : 2 ^ (r + 1) = 2 * 2 ^ r := by rw [Nat.pow_succ, Nat.mul_comm]
      have hi : u.length / 2 < u.length := by omega
      obtain ⟨j, hj, e⟩ := mem_setK.mp ((ty_set h (keyK (tyK (r + 1)) u (u.length / 2))).mp (mem_setK.mpr ⟨_, hi, rfl⟩))
      have e' := NestedKey.tup.inj e
      injection e' with e1 e'
      injection e' with e3 e'
      injection e' with e4 _
      have e3 := NestedKey.num.inj e3
      have l1 : (u.take (u.length / 2)).length < 2 ^ r := by rw [List.length_take]; omega
      have l2 : (u.drop (u.length / 2 + 1)).length < 2 ^ r := by rw [List.length_drop]; omega
      have a1 := ty_inj r _ _ l1 e1.symm
      have a2 := ty_inj r _ _ l2 e4.symm
      rw [cut_at u hi, cut_at v hj, a1, a2, e3]
/-! ### what repr writes -/
def tl (x : Str) : List Nat := x.cps.toList
theorem tl_append (x y : Str) : tl (x ++ y) = tl x ++ tl y := cps_toList_append x y
theorem tl_len (x : Str) : (tl x).length = x.length := by unfold tl; simp [Str.length]
inductive Sm : NestedKey → Prop
  | num {i : Int} : 0 ≤ i → i < 10 → Sm (.num i)
  | tup {ks : List NestedKey} : (∀ k ∈ ks, Sm k) → Sm (.tup ks)
mutual
def enc : NestedKey → List Nat
  | .num i => [48 + i.toNat]
  | .tup ks => 40 :: encB ks
  | _ => []
def encB : List NestedKey → List Nat
  | [] => [41]
  | k :: ks => enc k ++ encT1 ks
def encT1 : List NestedKey → List Nat
  | [] => [44, 41]
  | k :: ks => 44 :: 32 :: (enc k ++ encT ks)
def encT : List NestedKey → List Nat
  | [] => [41]
  | k :: ks => 44 :: 32 :: (enc k ++ encT ks)
end
theorem digit_shown {i : Int} (h0 : 0 ≤ i) (h1 : i < 10) : tl (Str.ofString (toString i)) = [48 + i.toNat] := by
  obtain ⟨n, rfl⟩ := Int.eq_ofNat_of_zero_le h0
  have hn : n < 10 := by omega
  have all : ∀ n : Fin 10, tl (Str.ofString (toString ((n.val : Nat) : Int))) = [48 + n.val] := by decide +kernel
  have q := all ⟨n, hn⟩
  simpa using q
theorem comma : tl (Str.ofString ", ") = [44, 32] := by decide +kernel
theorem join_tl : ∀ (x : Str) (ts : List Str) (z : List Nat), tl (Str.join (Str.ofString ", ") (x :: ts)) ++ z = tl x ++ (ts.foldr (fun t r => 44 :: 32 :: (tl t ++ r)) z)
  | x, [], z => rfl
  | x, y :: ts, z => by
    show tl (x ++ Str.ofString ", " ++ Str.join (Str.ofString ", ") (y :: ts)) ++ z = _
    rw [tl_append, tl_append, comma, List.append_assoc, List.append_assoc, join_tl y ts z]
    rfl
theorem encT_fold : ∀ (ks : List NestedKey), (∀ k ∈ ks, tl k.data.shown = enc k) → ((ks.map fun k => k.data.shown).foldr (fun t r => 44 :: 32 :: (tl t ++ r)) [41]) = encT ks
  | [], _ => by simp [encT]
  | k :: ks, h => by
    rw [List.map_cons, List.foldr_cons, encT_fold ks fun a ha => h a (List.mem_cons_of_mem _ ha), h k List.mem_cons_self, encT]
theorem tup_tl (ks : List NestedKey) (h : ∀ k ∈ ks, tl k.data.shown = enc k) : tl (NestedKey.data (.tup ks)).shown = enc (.tup ks) := by
  have e : (NestedKey.data (.tup ks)).shown = tupleText (ks.map fun k => k.data.shown) := by
    simp only [NestedKey.data, PyData.shown]
    rw [shownAll_eq_map, datas_map, List.map_map]
    rfl
  rw [e]
  unfold tupleText
  rw [tl_append, tl_append]
  have e1 : tl (Str.ofString "(") = [40] := by decide +kernel
  have e2 : tl (Str.ofString ")") = [41] := by decide +kernel
  have e3 : tl (Str.ofString ",)") = [44, 41] := by decide +kernel
  rw [e1]
  cases ks with
  | nil =>
    simp only [List.map_nil, List.length_nil]
    rw [if_neg (by decide), e2]
    simp only [enc, encB]
    rfl
  | cons k ks =>
    rw [enc, encB]
    cases ks with
    | nil =>
      simp only [List.map_cons, List.map_nil, List.length_cons, List.length_nil]
      rw [if_pos (by decide), e3, encT1]
      show 40 :: (tl k.data.shown ++ [44, 41]) = _
      rw [h k List.mem_cons_self]
    | cons k2 ks =>
      have hl : ¬ (((k :: k2 :: ks).map fun k => k.data.shown).length == 1) = true := by simp
      rw [if_neg hl, e2, List.append_assoc, List.map_cons, join_tl]
      rw [encT_fold (k2 :: ks) fun a ha => h a (List.mem_cons_of_mem _ ha), h k List.mem_cons_self, encT1, encT]
      rfl
theorem shown_enc {k : NestedKey} (h : Sm k) : tl k.data.shown = enc k := by
  induction h with
  | num h0 h1 =>
    simp only [NestedKey.data, PyData.shown, enc]
    exact digit_shown h0 h1
  | tup _ ih => exact tup_tl _ ih
/-- what begins a key's text: a figure or an opening bracket -/
theorem enc_head {k : NestedKey} (h : Sm k) : ∃ c r, enc k = c :: r ∧ c ≠ 41 ∧ c ≠ 44 := by
  cases h with
  | num h0 h1 => exact ⟨_, _, by rw [enc], by omega, by omega⟩
  | tup _ => exact ⟨40, _, by rw [enc], by decide, by decide⟩
theorem encT_inj : ∀ (xs ys : List NestedKey) (s t : List Nat), (∀ x ∈ xs, ∀ (b : NestedKey) (s t : List Nat), Sm b → enc x ++ s = enc b ++ t → x = b ∧ s = t) → (∀ y ∈ ys, Sm y) → encT xs ++ s = encT ys ++ t → xs = ys ∧ s = t
  | [], [], s, t, _, _, e => by
    rw [encT] at e
    exact ⟨rfl, (List.cons.inj e).2⟩
  | [], y :: ys, s, t, _, _, e => by
    rw [encT, encT] at e
    exact absurd (List.cons.inj e).1 (by decide)
  | x :: xs, [], s, t, _, _, e => by
    rw [encT, encT] at e
    exact absurd (List.cons.inj e).1 (by decide)
  | x :: xs, y :: ys, s, t, h, hy, e => by
    rw [encT, encT] at e
    have e1 : (enc x ++ encT xs) ++ s = (enc y ++ encT ys) ++ t := (List.cons.inj (List.cons.inj e).2).2
    rw [List.append_assoc, List.append_assoc] at e1
    obtain ⟨a1, a2⟩ := h x List.mem_cons_self y _ _ (hy y List.mem_cons_self) e1
    obtain ⟨b1, b2⟩ := encT_inj xs ys s t (fun z hz => h z (List.mem_cons_of_mem _ hz)) (fun z hz => hy z (List.mem_cons_of_mem _ hz)) a2
    exact ⟨by rw [a1, b1], b2⟩
theorem encT1_inj (xs ys : List NestedKey) (s t : List Nat) (h : ∀ x ∈ xs, ∀ (b : NestedKey) (s t : List Nat), Sm b → enc x ++ s = enc b ++ t → x = b ∧ s = t) (hy : ∀ y ∈ ys, Sm y) (e : encT1 xs ++ s = encT1 ys ++ t) : xs = ys ∧ s = t := by
  cases xs with
  | nil =>
    cases ys with
    | nil =>
      rw [encT1] at e
      exact ⟨rfl, (List.cons.inj (List.cons.inj e).2).2⟩
    | cons y ys =>
      rw [encT1, encT1] at e
      exact absurd (List.cons.inj (List.cons.inj e).2).1 (by decide)
  | cons x xs =>
    cases ys with
    | nil =>
      rw [encT1, encT1] at e
      exact absurd (List.cons.inj (List.cons.inj e).2).1 (by decide)
    | cons y ys =>
      have e' : encT (x :: xs) ++ s = encT (y :: ys) ++ t := by rw [encT, encT]; rw [encT1, encT1] at e; exact e
      exact encT_inj _ _ s t h hy e'
theorem encB_inj (xs ys : List NestedKey) (s t : List Nat) (h : ∀ x ∈ xs, ∀ (b : NestedKey) (s t : List Nat), Sm b → enc x ++ s = enc b ++ t → x = b ∧ s = t) (hx : ∀ x ∈ xs, Sm x) (hy : ∀ y ∈ ys, Sm y) (e : encB xs ++ s = encB ys ++ t) : xs = ys ∧ s = t := by
  cases xs with
  | nil =>
    cases ys with
    | nil =>
      rw [encB] at e
      exact ⟨rfl, (List.cons.inj e).2⟩
    | cons y ys =>
      rw [encB, encB] at e
      obtain ⟨c, r, e1, e2, _⟩ := enc_head (hy y List.mem_cons_self)
      rw [e1] at e
      exact absurd (List.cons.inj e).1.symm e2
  | cons x xs =>
    cases ys with
    | nil =>
      rw [encB, encB] at e
      obtain ⟨c, r, e1, e2, _⟩ := enc_head (hx x List.mem_cons_self)
      rw [e1] at e
      exact absurd (List.cons.inj e).1 e2
    | cons y ys =>
      rw [encB, encB, List.append_assoc, List.append_assoc] at e
      obtain ⟨a1, a2⟩ := h x List.mem_cons_self y _ _ (hy y List.mem_cons_self) e
      obtain ⟨b1, b2⟩ := encT1_inj xs ys s t (fun z hz => h z (List.mem_cons_of_mem _ hz)) (fun z hz => hy z (List.mem_cons_of_mem _ hz)) a2
      exact ⟨by rw [a1, b1], b2⟩
theorem enc_inj {a : NestedKey} (ha : Sm a) : ∀ (b : NestedKey) (s t : List Nat), Sm b → enc a ++ s = enc b ++ t → a = b ∧ s = t := by
  induction ha with
  | @num i h0 h1 =>
    intro b s t hb e
    cases hb with
    | @num j k0 k1 =>
      rw [enc, enc] at e
      obtain ⟨e1, e2⟩ := List.cons.inj e
      have : i = j := by omega
      exact ⟨by rw [this], e2⟩
    | tup _ =>
      rw [enc, enc] at e
      have := (List.cons.inj e).1
      omega
  | @tup ks hs ih =>
    intro b s t hb e
    cases hb with
    | num k0 k1 =>
      rw [enc, enc] at e
      have := (List.cons.inj e).1
      omega
    | tup hb =>
      rw [enc, enc] at e
      obtain ⟨e1, e2⟩ := encB_inj _ _ s t ih hs hb (List.cons.inj e).2
      exact ⟨by rw [e1], e2⟩
theorem shown_inj {a b : NestedKey} (ha : Sm a) (hb : Sm b) (h : a.data.shown = b.data.shown) : a = b := by
  have e : enc a ++ [] = enc b ++ [] := by rw [← shown_enc ha, ← shown_enc hb, h]
  exact (enc_inj ha b [] [] hb e).1
theorem sm_showable {k : NestedKey} (h : Sm k) : k.data.showable = true := by
  induction h with
  | @num i h0 h1 =>
    simp only [NestedKey.data, PyData.showable]
    have : i.natAbs < 10 := by omega
    have l : i.natAbs.log2 < 10 := by
      have := Nat.log2_le_self i.natAbs
      omega
    exact decide_eq_true (by omega)
  | @tup ks _ ih =>
    simp only [NestedKey.data, PyData.showable]
    have all : ∀ ks : List NestedKey, (∀ k ∈ ks, k.data.showable = true) → PyData.showableAll (NestedKey.datas ks) = true := by
      intro ks
      induction ks with
      | nil => intro _; simp [NestedKey.datas, PyData.showableAll]
      | cons k ks ihk =>
        intro h
        simp only [NestedKey.datas, PyData.showableAll, h k List.mem_cons_self, ihk fun a ha => h a (List.mem_cons_of_mem _ ha)]
        rfl
    exact all ks ih
theorem encT_len {m : Nat} : ∀ {ks : List NestedKey}, (∀ k ∈ ks, (enc k).length ≤ m) → (encT ks).length ≤ ks.length * (m + 2) + 1
  | [], _ => by simp [encT]
  | k :: ks, h => by
    rw [encT]
    have h1 := h k List.mem_cons_self
    have h2 := encT_len (m := m) fun a ha => h a (List.mem_cons_of_mem _ ha)
    simp only [List.length_cons, List.length_append, Nat.succ_mul]
    omega
theorem enc_tup_len {m : Nat} {ks : List NestedKey} (h : ∀ k ∈ ks, (enc k).length ≤ m) : (enc (.tup ks)).length ≤ ks.length * (m + 2) + 3 := by
  rw [enc]
  cases ks with
  | nil => simp [encB]
  | cons k ks =>
    rw [encB]
    have h1 := h k List.mem_cons_self
    have h2 := encT_len (m := m) fun a ha => h a (List.mem_cons_of_mem _ ha)
    cases ks with
    | nil =>
      simp only [encT1, List.length_cons, List.length_append, List.length_nil]
      omega
    | cons k2 ks =>
      have e : encT1 (k2 :: ks) = encT (k2 :: ks) := by rw [encT1, encT]
      rw [e]
      simp only [List.length_cons, List.length_append, Nat.succ_mul] at h2 ⊢
      omega
/-- a word's letters are small -/
def Lt10 (w : List Int) : Prop := ∀ c ∈ w, 0 ≤ c ∧ c < 10
theorem Lt10.take {w : List Int} (h : Lt10 w) (n : Nat) : Lt10 (w.take n) := fun c hc => h c (List.mem_of_mem_take hc)
theorem Lt10.drop {w : List Int} (h : Lt10 w) (n : Nat) : Lt10 (w.drop n) := fun c hc => h c (List.mem_of_mem_drop hc)
theorem Lt10.at {w : List Int} (h : Lt10 w) (i : Nat) : 0 ≤ w.getD i 0 ∧ w.getD i 0 < 10 := by
  rw [List.getD_eq_getElem?_getD]
  cases e : w[i]? with
  | none => exact ⟨by decide, by decide⟩
  | some c => exact h c (List.mem_of_getElem? e)
theorem sm_key {r : Nat} (ih : ∀ w, Lt10 w → Sm (tyK r w)) {w : List Int} (h : Lt10 w) (i : Nat) : Sm (keyK (tyK r) w i) := by
  refine .tup fun k hk => ?_
  rcases List.mem_cons.mp hk with rfl | hk
  · exact ih _ (h.take i)
  · rcases List.mem_cons.mp hk with rfl | hk
    · exact .num (h.at i).1 (h.at i).2
    · rcases List.mem_cons.mp hk with rfl | hk
      · exact ih _ (h.drop (i + 1))
      · cases hk
theorem sm_ty : ∀ (r : Nat) (w : List Int), Lt10 w → Sm (tyK r w)
  | 0, w, _ => .tup fun k hk => nomatch hk
  | r + 1, w, h => .tup fun k hk => by
    obtain ⟨i, _, rfl⟩ := mem_setK.mp (mem_sortK.mp hk)
    exact sm_key (sm_ty r) h i
def encMost : Nat → Nat
  | 0 => 2
  | r + 1 => 16 * ((2 * encMost r + 12) + 2) + 3
theorem key_len {r : Nat} (ih : ∀ w : List Int, w.length ≤ 16 → (enc (tyK r w)).length ≤ encMost r) {w : List Int} (h : w.length ≤ 16) (i : Nat) : (enc (keyK (tyK r) w i)).length ≤ 2 * encMost r + 12 := by
  have h1 := ih (w.take i) (by rw [List.length_take]; omega)
  have h2 := ih (w.drop (i + 1)) (by rw [List.length_drop]; omega)
  unfold keyK
  rw [enc, encB, encT1, encT, encT]
  simp only [List.length_cons, List.length_append, List.length_nil, enc]
  omega
theorem ty_len : ∀ (r : Nat) (w : List Int), w.length ≤ 16 → (enc (tyK r w)).length ≤ encMost r
  | 0, w, _ => by simp [tyK, enc, encB, encMost]
  | r + 1, w, h => by
    have q : (enc (tyK (r + 1) w)).length ≤ (sortK (setK (keyK (tyK r) w) w.length)).length * ((2 * encMost r + 12) + 2) + 3 := enc_tup_len fun k hk => by
      obtain ⟨i, _, rfl⟩ := mem_setK.mp (mem_sortK.mp hk)
      exact key_len (ty_len r) h i
    have l : (sortK (setK (keyK (tyK r) w) w.length)).length ≤ 16 := by
      unfold sortK
      rw [List.length_mergeSort]
      exact Nat.le_trans (setK_len _) h
    unfold encMost
    have := Nat.mul_le_mul_right ((2 * encMost r + 12) + 2) l
    omega
end G

set_option Elab.async false
set_option linter.all false
set_option maxRecDepth 100000
set_option maxHeartbeats 4000000
/- dicts as sets of keys -/
namespace G
open PySem L2 PySem.Spec PyProof.Rows
def trueK (ks : List NestedKey) : List (NestedKey × PyData) := ks.map fun k => (k, .bool true)
theorem trueK_fst (ks : List NestedKey) : (trueK ks).map (·.1) = ks := by unfold trueK; rw [List.map_map]; exact List.map_id _
theorem trueK_put (ks : List NestedKey) (k : NestedKey) : putN (trueK ks) k (.bool true) = trueK (addK ks k) := by
  unfold putN addK
  rw [trueK_fst]
  split
  · unfold trueK
    rw [List.map_map]
    refine List.map_congr_left fun a _ => ?_
    show (if a = k then (a, PyData.bool true) else (a, PyData.bool true)) = _
    split <;> rfl
  · unfold trueK
    rw [List.map_append]; rfl
theorem pairs_get {w : List Int} {i : Nat} {x : PyData} (h : (pairsD (w.map .int))[i]? = some x) : i < w.length ∧ x = .tuple [.int i, .int (w.getD i 0)] := by
  have hi : i < w.length := by
    have q := (List.getElem?_eq_some_iff.mp h).1
    rw [pairsD_len, List.length_map] at q
    exact q
  have e : (w.map PyData.int)[i]? = some (.int (w.getD i 0)) := by
    rw [List.getElem?_map, List.getD_eq_getElem?_getD, List.getElem?_eq_getElem hi]; rfl
  rw [pairsD_at e] at h
  exact ⟨hi, (Option.some.inj h).symm⟩
theorem kvN_true (f : Nat → NestedKey) : ∀ n : Nat, kvN (fun i => (f i, .bool true)) n = trueK (setK f n)
  | 0 => rfl
  | n + 1 => by
    show putN (kvN _ n) (f n) (.bool true) = trueK (addK (setK f n) (f n))
    rw [kvN_true f n, trueK_put]
section
variable {X : Cx} {ρ ρ' ρ1 ρ2 ρ3 : Env'} {tg iter kx vx : Expr} {pos p : Pos} {xs : List PyData}
/-- {k: True for tg in iter}, the parts change nothing -/
theorem dd_keys {scope : Scope} (own : List (Str × Nat)) (f : Nat → NestedKey) (hunits : X.A.units + 100 < cLine) (hc : X.calm = true) (hN : X.N.Nodup) (ok : BlkOk X.N X.env.scope scope own) (hi : DI X ρ tg iter xs ρ1) (hv : ∀ j ∈ own.map (·.2), gS ρ1 j = .un)
    (turn : ∀ i x, xs[i]? = some x → DcT X scope (own.map (·.2)) tg kx vx x ρ1 (f i) (.bool true) ρ1) (hz : xs.length < 1000000)
    (hs : ∀ x, foldedSetIterable iter X.env x = pure x := by intro _; rfl) : DD X ρ (.DictComp kx vx [⟨tg, iter, [], 0⟩] scope pos) (trueK (setK f xs.length)) ρ1 := by
  rw [← kvN_true]
  exact dd_dc hunits hc hN ok hi (fun _ => ρ1) _ (fun i x hx => turn i x hx) (wipeE_wk hv) (fun _ => wipeE_wk hv) (mrg_un rfl hv) hz hs
theorem trueK_data (ks : List NestedKey) : ((trueK ks).map fun x => x.1.data) = ks.map NestedKey.data := by
  unfold trueK
  rw [List.map_map]; rfl
/-- x = {k: True for tg in iter}, the parts change nothing -/
theorem ds_setKeys {i : Nat} {y : Str} {py spos : Pos} {s0 : Sl} {scope : Scope} (own : List (Str × Nat)) (f : Nat → NestedKey) (hunits : X.A.units + 100 < cLine) (hc : X.calm = true) (hN : X.N.Nodup) (ok : BlkOk X.N X.env.scope scope own) (hi : DI X ρ tg iter xs ρ1) (hv : ∀ j ∈ own.map (·.2), gS ρ1 j = .un)
    (turn : ∀ i x, xs[i]? = some x → DcT X scope (own.map (·.2)) tg kx vx x ρ1 (f i) (.bool true) ρ1) (hz : xs.length < 1000000)
    (hsw : swapsWith (.DictComp kx vx [⟨tg, iter, [], 0⟩] scope pos) (some (.Name y py)) spos.line X.env = pure true := by rfl)
    (hr : ρ1[i]? = some s0 := by rfl) (hy : X.N[i]? = some y := by rfl) (hyl : X.env.scope.names.lookup y = some .local := by rfl) (hs : ∀ x, foldedSetIterable iter X.env x = pure x := by intro _; rfl) :
    DS X ρ (.Assign [.Name y py] (.DictComp kx vx [⟨tg, iter, [], 0⟩] scope pos) spos) (.nx (ρ1.set i (.o (.dn X.w (trueK (setK f xs.length)))))) := by
  rw [← kvN_true]
  exact ds_setDc hunits hc hN ok hsw hi (fun _ => ρ1) _ (fun i x hx => turn i x hx) (wipeE_wk hv) (fun _ => wipeE_wk hv) (mrg_un rfl hv) hz hr hy hyl hs
open PySem.W in
/-- tuple(sorted(d)), the keys of d all alike -/
theorem de_sortSet {i : Nat} {ks : List NestedKey} {e : Expr} {p1 p2 p3 p4 : Pos} (hc : X.calm = true) (hu : X.A.units + 100 < cLine) (hal : ∀ a ∈ ks, ∀ b ∈ ks, alike a.data b.data = true) (hso : ∀ a ∈ ks, ∃ k r, a = .tup (k :: r)) (mt : X.mg "tuple" = none) (ms : X.mg "sorted" = none)
    (h : DE X ρ e (.o i) ρ1) (hs : ρ1[i]? = some (.o (.dn X.w (trueK ks))) := by rfl) (hg : Gl X "sorted" := by rfl) (hg2 : Gl X "tuple" := by rfl)
    (he : starEach [e] X.env = (false, eval e X.env) :: starEach [] X.env := by rfl) (hpl : (backTo p2 (starEach [] X.env)).any (·.1) = false := by rfl)
    (he2 : starEach [.Call (.Name "sorted" p1) [e] [] p2] X.env = (false, eval (.Call (.Name "sorted" p1) [e] [] p2) X.env) :: starEach [] X.env := by rfl) (hpl2 : (backTo p4 (starEach [] X.env)).any (·.1) = false := by rfl) :
    DE X ρ (.Call (.Name "tuple" p3) [.Call (.Name "sorted" p1) [e] [] p2] [] p4) (.d (NestedKey.tup (sortK ks)).data) ρ1 := by
  refine de_is (de_tupL .d mt (dl_sortDn (i := i) hc hu ?_ ?_ ms h hs hg he hpl).de hg2 he2 hpl2) ?_
  · rw [trueK_data]
    intro a ha b hb
    obtain ⟨ka, ha', rfl⟩ := List.mem_map.mp ha
    obtain ⟨kb, hb', rfl⟩ := List.mem_map.mp hb
    exact hal ka ha' kb hb'
  · rw [trueK_data]
    refine .inl fun d hd => ?_
    obtain ⟨ka, ha', rfl⟩ := List.mem_map.mp hd
    obtain ⟨k, r, rfl⟩ := hso ka ha'
    exact ⟨_, _, by rw [NestedKey.data, NestedKey.datas]⟩
  · rw [trueK_data, ← sortK_data, ← datas_map]
    rfl
end
end G

set_option Elab.async false
set_option linter.all false
set_option maxRecDepth 100000
set_option maxHeartbeats 4000000
/- d.update({..}), keys that are tuples -/
namespace G
open PySem L2 PySem.Spec PyProof.Rows
section
variable {X : Cx} {pins : List (Addr × Obj)} {σ : L2.St} {H : Hp} {s : Shared} {a b : Addr} {xs ys : List (NestedKey × Addr × Value)}
theorem dn_upd {E : Value → Shared → Prop} {Q : Value → Shared → Prop} (hu : X.A.units + 100 < cLine) (I : Inv X pins σ H s) (h : H a = some (dnHO X.w a xs)) (hk : ∀ x ∈ xs, Dp X.K H (.ref x.2.1) x.1.data ∧ x.1.depth ≤ 8) (nd : (xs.map (·.1)).Nodup)
    (h2 : H b = some (dnHO X.w b ys)) (hk2 : ∀ x ∈ ys, Dp X.K H (.ref x.2.1) x.1.data ∧ x.1.depth ≤ 8) (nd2 : (ys.map (·.1)).Nodup) (hab : a ≠ b) (hb : (b == sysModules) = false) (hz : xs.length + ys.length ≤ 1000000)
    (hap : xs ≠ [] ∨ ((∀ x ∈ ys, ∃ ks, x.1 = .tup ks) ∧ (ys.map fun x => NestedKey.hash X.w x.1).Nodup)) (q : ∀ s', Inv X pins σ (upd H a (dnHO X.w a (storedAllH xs ys))) s' → Q .none s') : wpAny (model X.prog X.w) X.A (call (.builtin "dict.update") [.ref a, .ref b]) Q E s := by
  have hap' : xs ≠ [] ∨ ((∀ x ∈ ys, s.TypeIs (.ref x.2.1) "tuple") ∧ (ys.map fun x => (nestedKind X.prog X.w).hash x.1).Nodup) := by
    rcases hap with z | ⟨t1, t2⟩
    · exact .inl z
    · refine .inr ⟨fun x hx => ?_, t2⟩
      obtain ⟨ks, e⟩ := t1 x hx
      have z := key_is I (hk2 x hx).1 (hk2 x hx).2
      have z' : NestedIs s.heap x.1 (.ref x.2.1) := z.1
      rw [e] at z'
      cases z' with
      | tup g1 g2 g3 g4 => exact ⟨_, g1, g2⟩
  refine call_update_dictH (knd := nestedKind X.prog X.w) (by show X.A.units + 1 + 8 < cLine; omega) hab hb (dn_of I h hk nd) (dn_of I h2 hk2 nd2) hap' (by rw [sizeLine_eq]; omega) fun h' m' _ hs => ?_
  obtain ⟨o, ho⟩ : ∃ o, h'.get? a = some o := by obtain ⟨o, _, _, ho, _⟩ := m'; exact ⟨o, ho⟩
  exact q _ (I.write (e := a) (o := dnHO X.w a (storedAllH xs ys)) (by rw [h]; trivial) (.inl rfl) (fun b u hb e => (hs.2 b hb).trans e) ⟨o, ho⟩ (dn_ok m'))
end
def putAllN (kvs more : List (NestedKey × PyData)) : List (NestedKey × PyData) := more.foldl (fun acc p => putN acc p.1 p.2) kvs
theorem nk_putAll {K : PySem.W.Frag} {B : Hp} : ∀ {ys : List (NestedKey × Addr × Value)} {more : List (NestedKey × PyData)} {xs : List (NestedKey × Addr × Value)} {kvs : List (NestedKey × PyData)}, NkAll K B ys more → NkAll K B xs kvs → (xs.map (·.1)).Nodup → NkAll K B (storedAllH xs ys) (putAllN kvs more) ∧ ((storedAllH xs ys).map (·.1)).Nodup ∧ (storedAllH xs ys).length ≤ xs.length + ys.length
  | _, _, _, _, .nil, t, nd => ⟨t, nd, Nat.le_refl _⟩
  | _, _, xs, kvs, .cons (k := k) (a := ka) (u := u) (r := r) (s := s) h1 h2 h3 h4 t2, t, nd => by
    obtain ⟨g1, g2, g3⟩ := nk_putAll t2 (nk_put t h1 h2 h3 h4) (storedH_nodup nd)
    refine ⟨g1, g2, Nat.le_trans g3 ?_⟩
    have := storedH_len (xs := xs) (k := k) (ka := ka) (u := u)
    rw [List.length_cons]
    omega
theorem trueK_putAll : ∀ (more ks : List NestedKey), putAllN (trueK ks) (trueK more) = trueK (more.foldl addK ks)
  | [], ks => rfl
  | k :: more, ks => by
    show putAllN (putN (trueK ks) k (.bool true)) (trueK more) = trueK (more.foldl addK (addK ks k))
    rw [trueK_put, trueK_putAll more (addK ks k)]
theorem mem_addAll {k : NestedKey} : ∀ {more ks : List NestedKey}, k ∈ more.foldl addK ks ↔ k ∈ ks ∨ k ∈ more
  | [], ks => by simp
  | m :: more, ks => by
    rw [List.foldl_cons, mem_addAll, mem_addK, List.mem_cons, or_assoc]
theorem addAll_nodup : ∀ {more ks : List NestedKey}, ks.Nodup → (more.foldl addK ks).Nodup
  | [], _, h => h
  | k :: more, ks, h => by
    rw [List.foldl_cons]
    exact addAll_nodup (addK_nodup h)
section
variable {X : Cx} {ρ ρ' ρ1 ρ2 ρ3 : Env'} {a e : Expr} {pos p : Pos}
/-- d.update(e), e a new dict -/
theorem pe_dnUpd {ta : TA} {to : TE} {apos : Pos} (hu : X.A.units + 100 < cLine) (ho : PE X a to) (ha : PA X [e] ta) (hbase : attributeBase a "update" X.env (eval a X.env) = eval a X.env := by rfl)
    (hfew : ((backTo p (starEach [e] X.env)).all (fun x => !x.1) && (backToKw p (keywordEach [] X.env)).all (fun x => x.1.isSome) && decide ([e].length + ([] : List Keyword).length + (if ([] : List Keyword).isEmpty then 0 else 1) < 30)) = true := by rfl)
    (hline : (apos.endLine == p.line) = true := by rfl) (hs : starEach [e] X.env = (false, eval e X.env) :: starEach [] X.env := by rfl) (hpl : (backTo p (starEach [] X.env)).any (·.1) = false := by rfl) :
    PE X (.Call (.Attribute a "update" apos) [e] [] p) (fun σ H Q => to σ H fun x H1 => ∃ d xs, x = .ref d ∧ H1 d = some (dnHO X.w d xs) ∧ (∀ x ∈ xs, Dp X.K H1 (.ref x.2.1) x.1.data ∧ x.1.depth ≤ 8) ∧ (xs.map (·.1)).Nodup ∧
      ta σ H1 fun vs H2 => ∃ b xs ys, vs = [.ref b] ∧ H2 d = some (dnHO X.w d xs) ∧ (∀ x ∈ xs, Dp X.K H2 (.ref x.2.1) x.1.data ∧ x.1.depth ≤ 8) ∧ (xs.map (·.1)).Nodup ∧ H2 b = some (dnHO X.w b ys) ∧ (∀ x ∈ ys, Dp X.K H2 (.ref x.2.1) x.1.data ∧ x.1.depth ≤ 8) ∧ (ys.map (·.1)).Nodup ∧ d ≠ b ∧ (b == sysModules) = false ∧
        xs.length + ys.length ≤ 1000000 ∧ (xs ≠ [] ∨ ((∀ x ∈ ys, ∃ ks, x.1 = .tup ks) ∧ (ys.map fun x => NestedKey.hash X.w x.1).Nodup)) ∧ Q .non (upd H2 d (dnHO X.w d (storedAllH xs ys)))) := by
  refine ⟨fun pins s σ H Q I h => ?_⟩
  refine wpAny_Call_method_late hbase hfew hline rfl (thn (ho.run pins s σ H _ I h) fun v s1 ⟨x, H1, I1, r1, d, xs, ex, hd, hk, nd, q1⟩ => ?_)
  subst ex
  obtain rfl : v = Value.ref d := r1
  have hm := dn_of I1 hd hk nd
  refine ⟨"dict", "dict.update", PySem.F.plainAttrs_dict, PySem.F.slot_dict_update, PySem.F.type_dict_update, hm.typeIs, fun a ea => ?_, ?_⟩
  · cases ea
    obtain ⟨o, es, ep, ho', hc, _⟩ := hm
    exact ⟨o, ho', hc.2.1⟩
  · have hA := ha.run p pins s1 σ H1 _ I1 q1
    rw [hs] at hA ⊢
    refine Calls.callWith_builtin (by show (false || (backTo p (starEach [] X.env)).any (·.1)) = false; rw [hpl] <;> rfl) (Calls.evalArgs_plain ?_)
    refine thn hA fun us s2 ⟨vs, H2, I2, r2, b, xs2, ys, ev, g1, g2, g3, g4, g5, g6, g7, g8, g9, g10, q2⟩ => ?_
    subst ev
    cases r2 with
    | cons r r' =>
      cases r'
      cases r
      exact dn_upd hu I2 g1 g2 g3 g4 g5 g6 g7 g8 g9 g10 fun s' I' => ⟨.non, _, I', rfl, q2⟩
theorem ds_updDn {i : Nat} {kvs more : List (NestedKey × PyData)} {apos : Pos} (hu : X.A.units + 100 < cLine) (h0 : DE X ρ a (.o i) ρ1) (h : DD X ρ1 e more ρ2) (hz : kvs.length + more.length ≤ 1000000)
    (hap : kvs ≠ [] ∨ ((∀ x ∈ more, ∃ ks, x.1 = .tup ks) ∧ (more.map fun x => NestedKey.hash X.w x.1).Nodup)) (hs0 : ρ1[i]? = some (.o (.dn X.w kvs)) := by rfl) (hs2 : ρ2[i]? = some (.o (.dn X.w kvs)) := by rfl)
    (hbase : attributeBase a "update" X.env (eval a X.env) = eval a X.env := by rfl)
    (hfew : ((backTo p (starEach [e] X.env)).all (fun x => !x.1) && (backToKw p (keywordEach [] X.env)).all (fun x => x.1.isSome) && decide ([e].length + ([] : List Keyword).length + (if ([] : List Keyword).isEmpty then 0 else 1) < 30)) = true := by rfl)
    (hline : (apos.endLine == p.line) = true := by rfl) (hs : starEach [e] X.env = (false, eval e X.env) :: starEach [] X.env := by rfl) (hpl : (backTo p (starEach [] X.env)).any (·.1) = false := by rfl)
    (hsw : swapsWith (.Call (.Attribute a "update" apos) [e] [] p) none pos.line X.env = pure false := by rfl) :
    DS X ρ (.Expr (.Call (.Attribute a "update" apos) [e] [] p) pos) (.nx (ρ2.set i (.o (.dn X.w (putAllN kvs more))))) := fun F Z B H σ D k q =>
  ⟨_, ps_expr (pe_dnUpd hu pe_s (pa_cons pe_s pa_nil hs) hbase hfew hline hs hpl) hsw, h0 F Z B H σ _ k fun v B1 H1 k1 x1 w1 => by
    obtain ⟨v', as, g1, g2, _⟩ := k1.ob (gS_some hs0)
    have w' : gV σ i = some v := w1
    rw [w'] at g1
    cases g1
    cases g2 with
    | @dn _ d xs _ d1 d2 d3 d4 d5 =>
    refine ⟨d, xs, rfl, d1, fun x hx => ⟨dp_mono k1.exB (nk_keys d5 x hx).1, (nk_keys d5 x hx).2⟩, d4, ?_⟩
    refine h F Z B1 H1 σ _ k1 fun b B2 H2 k2 x2 n2 ob2 => ?_
    obtain ⟨v', as, g1, g2, g3⟩ := k2.ob (gS_some hs2)
    rw [w'] at g1
    cases g1
    have dn0 := g2
    have nb := n2.o i _ _ _ (gS_some hs2) w' g2
    cases g2 with
    | @dn _ _ xs2 _ e1 e2 e3 e4 e5 =>
    cases ob2 with
    | @dn _ _ ys _ f1 f2 f3 f4 f5 =>
    have el : xs2.length = kvs.length := e5.length
    have fl : ys.length = more.length := f5.length
    obtain ⟨t1, t2, t3⟩ := nk_putAll f5 e5 e4
    refine ⟨b, xs2, ys, rfl, e1, fun x hx => ⟨dp_mono k2.exB (nk_keys e5 x hx).1, (nk_keys e5 x hx).2⟩, e4, f1, fun x hx => ⟨dp_mono k2.exB (nk_keys f5 x hx).1, (nk_keys f5 x hx).2⟩, f4, fun z => nb (by rw [z]; exact List.mem_singleton.mpr rfl), f2, by omega, ?_, ?_⟩
    · have ef := nk_fst f5
      rcases hap with z | ⟨z1, z2⟩
      · refine .inl fun z' => z ?_
        rw [z'] at el
        exact List.length_eq_zero_iff.mp el.symm
      · refine .inr ⟨fun x hx => ?_, ?_⟩
        · have m : x.1 ∈ more.map (·.1) := by rw [← ef]; exact List.mem_map_of_mem hx
          obtain ⟨y, hy, e⟩ := List.mem_map.mp m
          obtain ⟨ks, ek⟩ := z1 y hy
          exact ⟨ks, by rw [← e]; exact ek⟩
        · have q1 := congrArg (List.map (NestedKey.hash X.w)) ef
          rw [List.map_map, List.map_map] at q1
          have q2 : (ys.map fun x => NestedKey.hash X.w x.1) = more.map fun x => NestedKey.hash X.w x.1 := q1
          rw [q2]; exact z2
    · exact q B2 _ σ (k2.turn (gS_some hs2) w' dn0 (.dn upd_same e2 (by omega) t2 t1) fun c hc => by
        rw [upd_ne fun z => hc (by rw [z]; exact List.mem_singleton.mpr rfl)]) (x1.trans x2)⟩
end
end G

set_option Elab.async false
set_option linter.all false
set_option maxRecDepth 100000
set_option maxHeartbeats 4000000
/- membership, dicts of pairs, new dicts sorted -/
namespace G
open PySem L2 PySem.Spec PyProof.Rows
/-! ### x in T, data -/
def rInDT (K : PySem.W.Frag) : R2 := fun x y H Q => ∃ d ds, Dp K H x d ∧ Dp K H y (.tuple ds) ∧ SeqAt.shaped d = true ∧ SeqAt.shaped (.tuple ds) = true ∧ Q (.bl (ds.any fun z => PyData.eqv z d)) H
def rNotInDT (K : PySem.W.Frag) : R2 := fun x y H Q => ∃ d ds, Dp K H x d ∧ Dp K H y (.tuple ds) ∧ SeqAt.shaped d = true ∧ SeqAt.shaped (.tuple ds) = true ∧ Q (.bl (!ds.any fun z => PyData.eqv z d)) H
section
variable {X : Cx}
theorem op_inDT (hu : X.A.units + 65 < cLine) : OpR X (compareOp .In) (rInDT X.K) := by
  intro pins s σ H x y v u Q I rx ry h
  obtain ⟨d, ds, hd, he, sd, se, q⟩ := h
  obtain ⟨as, r1⟩ := Dp.reads I d x v (hd.l2 (nd_sh sd)) rx
  obtain ⟨bs, r2⟩ := Dp.reads I (.tuple ds) y u (he.l2 (nd_sh se)) ry
  exact SeqAt.in_tuple_reads r2 r1 (SeqAt.canLay_of_shaped se) (SeqAt.canLay_of_shaped sd) (room_in_shaped sd hu) ⟨.bl _, H, I, rfl, q⟩
theorem op_notInDT (hu : X.A.units + 65 < cLine) : OpR X (compareOp .NotIn) (rNotInDT X.K) := by
  intro pins s σ H x y v u Q I rx ry h
  obtain ⟨d, ds, hd, he, sd, se, q⟩ := h
  obtain ⟨as, r1⟩ := Dp.reads I d x v (hd.l2 (nd_sh sd)) rx
  obtain ⟨bs, r2⟩ := Dp.reads I (.tuple ds) y u (he.l2 (nd_sh se)) ry
  exact SeqAt.notIn_tuple_reads r2 r1 (SeqAt.canLay_of_shaped se) (SeqAt.canLay_of_shaped sd) (room_in_shaped sd hu) ⟨.bl _, H, I, rfl, q⟩
end
section
variable {ρ : Env'} {d : PyData} {ds : List PyData}
theorem od_inT {K : PySem.W.Frag} (hx : SeqAt.shaped d = true) (hy : SeqAt.shaped (.tuple ds) = true) : OpD K (rInDT K) ρ (.d d) (.d (.tuple ds)) (.d (.bool (ds.any fun z => PyData.eqv z d))) := fun F Z B H σ Q v1 v2 k w1 w2 q =>
  ⟨d, ds, dp_mono k.exB w1, dp_mono k.exB w2, hx, hy, q _ B H k (Sub.refl B) (.bl _)⟩
theorem od_notInT {K : PySem.W.Frag} (hx : SeqAt.shaped d = true) (hy : SeqAt.shaped (.tuple ds) = true) : OpD K (rNotInDT K) ρ (.d d) (.d (.tuple ds)) (.d (.bool (!ds.any fun z => PyData.eqv z d))) := fun F Z B H σ Q v1 v2 k w1 w2 q =>
  ⟨d, ds, dp_mono k.exB w1, dp_mono k.exB w2, hx, hy, q _ B H k (Sub.refl B) (.bl _)⟩
theorem od_inL {K : PySem.W.Frag} (hx : SeqAt.shaped d = true) (hy : SeqAt.shaped (.list ds) = true) : OpD K (rInD K) ρ (.d d) (.d (.list ds)) (.d (.bool (ds.any fun z => PyData.eqv z d))) := fun F Z B H σ Q v1 v2 k w1 w2 q =>
  ⟨d, ds, (dp_mono k.exB w1).l2 (nd_sh hx), (dp_mono k.exB w2).l2 (nd_sh hy), hx, hy, q _ B H k (Sub.refl B) (.bl _)⟩
theorem od_notInL {K : PySem.W.Frag} (hx : SeqAt.shaped d = true) (hy : SeqAt.shaped (.list ds) = true) : OpD K (rNotInD K) ρ (.d d) (.d (.list ds)) (.d (.bool (!ds.any fun z => PyData.eqv z d))) := fun F Z B H σ Q v1 v2 k w1 w2 q =>
  ⟨d, ds, (dp_mono k.exB w1).l2 (nd_sh hx), (dp_mono k.exB w2).l2 (nd_sh hy), hx, hy, q _ B H k (Sub.refl B) (.bl _)⟩
end
section
variable {X : Cx} {ρ ρ1 ρ2 : Env'} {a b : Expr} {pos : Pos} {d : PyData} {ds : List PyData}
theorem dt_inT (hu : X.A.units + 65 < cLine) (hx : SeqAt.shaped d = true) (hy : SeqAt.shaped (.tuple ds) = true) (ha : DE X ρ a (.d d) ρ1) (hb : DE X ρ1 b (.d (.tuple ds)) ρ2) (hm : behindInMarks .In b = false := by rfl) : DT X ρ (.Compare a [.In] [b] pos) (ds.any fun z => PyData.eqv z d) ρ2 := dt_cmp (op_inDT hu) (od_inT hx hy) hm ha hb
theorem de_inT (hu : X.A.units + 65 < cLine) (hx : SeqAt.shaped d = true) (hy : SeqAt.shaped (.tuple ds) = true) (ha : DE X ρ a (.d d) ρ1) (hb : DE X ρ1 b (.d (.tuple ds)) ρ2) (hm : behindInMarks .In b = false := by rfl) : DE X ρ (.Compare a [.In] [b] pos) (.d (.bool (ds.any fun z => PyData.eqv z d))) ρ2 := de_cmp (op_inDT hu) (od_inT hx hy) hm ha hb
theorem dt_notInT (hu : X.A.units + 65 < cLine) (hx : SeqAt.shaped d = true) (hy : SeqAt.shaped (.tuple ds) = true) (ha : DE X ρ a (.d d) ρ1) (hb : DE X ρ1 b (.d (.tuple ds)) ρ2) (hm : behindInMarks .NotIn b = false := by rfl) : DT X ρ (.Compare a [.NotIn] [b] pos) (!ds.any fun z => PyData.eqv z d) ρ2 := dt_cmp (op_notInDT hu) (od_notInT hx hy) hm ha hb
theorem dt_inL (hu : X.A.units + 65 < cLine) (hx : SeqAt.shaped d = true) (hy : SeqAt.shaped (.list ds) = true) (ha : DE X ρ a (.d d) ρ1) (hb : DE X ρ1 b (.d (.list ds)) ρ2) (hm : behindInMarks .In b = false := by rfl) : DT X ρ (.Compare a [.In] [b] pos) (ds.any fun z => PyData.eqv z d) ρ2 := dt_cmp (op_inD hu) (od_inL hx hy) hm ha hb
theorem dt_notInL (hu : X.A.units + 65 < cLine) (hx : SeqAt.shaped d = true) (hy : SeqAt.shaped (.list ds) = true) (ha : DE X ρ a (.d d) ρ1) (hb : DE X ρ1 b (.d (.list ds)) ρ2) (hm : behindInMarks .NotIn b = false := by rfl) : DT X ρ (.Compare a [.NotIn] [b] pos) (!ds.any fun z => PyData.eqv z d) ρ2 := dt_cmp (op_notInD hu) (od_notInL hx hy) hm ha hb
end
theorem any_nk (L : List NestedKey) (k : NestedKey) : ((L.map NestedKey.data).any fun z => PyData.eqv z k.data) = decide (k ∈ L) := by
  rw [List.any_map]
  induction L with
  | nil => rfl
  | cons a L ih =>
    rw [List.any_cons, ih]
    show (PyData.eqv a.data k.data || decide (k ∈ L)) = _
    rw [eqv_nk]
    by_cases h : a = k
    · subst h; simp
    · rw [decide_eq_false h, Bool.false_or]
      by_cases m : k ∈ L
      · rw [decide_eq_true m, decide_eq_true (List.mem_cons_of_mem _ m)]
      · rw [decide_eq_false m, decide_eq_false fun z => (List.mem_cons.mp z).elim (fun e => h e.symm) m]
/-! ### new objects -/
/-- an expression that lays a new object -/
def DF (X : Cx) (ρ : Env') (e : Expr) (b : Ob) (ρ' : Env') : Prop := ∀ F Z B H σ Q, Ok X.K F Z B H σ ρ →
  (∀ p B' H', Ok X.K F Z B' H' σ ρ' → Sub B B' → New X.K F Z B' H' σ ρ' p → ObAt X.K B' H' (.ref p) [p] b → Q (.ref p) H') → sE X e σ H Q
section
variable {X : Cx} {ρ ρ' ρ1 ρ2 ρ3 : Env'} {a b c e tg iter : Expr} {es : List Expr} {pos p : Pos} {xs ys : List PyData} {kvs : List (NestedKey × PyData)}
theorem DL.df (h : DL X ρ e xs ρ1) : DF X ρ e (.lst xs) ρ1 := fun F Z B H σ Q k q => h F Z B H σ Q k fun p us B' H' k' x n hp t => q p B' H' k' x n (.lst hp t)
theorem DD.df (h : DD X ρ e kvs ρ1) : DF X ρ e (.dn X.w kvs) ρ1 := h
theorem ds_setF {i : Nat} {x : Str} {pos' : Pos} {b : Ob} {s0 : Sl} (hN : X.N.Nodup) (he : DF X ρ e b ρ1) (hr : ρ1[i]? = some s0 := by rfl) (hi : X.N[i]? = some x := by rfl) (hx : Loc X.env.scope x := by first | exact Or.inl rfl | exact Or.inr rfl)
    (hs : swapsWith e (some (.Name x pos')) pos.line X.env = pure false := by rfl) (hf : X.fn x = true ∨ X.env.scope.names.lookup x = some .local := by first | exact .inl rfl | exact .inr rfl) : DS X ρ (.Assign [.Name x pos'] e pos) (.nx (ρ1.set i (.o b))) := fun F Z B H σ D k q =>
  ⟨_, ps_set hN hi hx pe_s hs hf, he F Z B H σ _ k fun p B1 H1 k1 x1 n w => q B1 H1 _ (k1.take n (List.getElem?_eq_some_iff.mp hr).1 w) x1⟩
/-- sorted(e), e a new dict of tuple keys -/
theorem dl_sortF (hc : X.calm = true) (hu : X.A.units + 100 < cLine) (hal : PySem.W.AllAlike (kvs.map fun x => x.1.data)) (hso : PySem.W.Sortable (kvs.map fun x => x.1.data)) (hm : X.mg "sorted" = none) (h : DD X ρ e kvs ρ1) (hg : Gl X "sorted" := by rfl)
    (he : starEach [e] X.env = (false, eval e X.env) :: starEach [] X.env := by rfl) (hpl : (backTo pos (starEach [] X.env)).any (·.1) = false := by rfl) : DL X ρ (.Call (.Name "sorted" p) [e] [] pos) (sortD (kvs.map fun x => x.1.data)) ρ1 := fun F Z B H σ Q k q =>
  ⟨_, pe_callB (call_sortDn hc hu) hg hm PyProof.Rows.boot_sorted (pa_cons pe_s pa_nil he) (by decide) (by decide) he hpl, h F Z B H σ _ k fun a B1 H1 k1 x1 n1 ob => by
    cases ob with
    | @dn _ _ xs _ d1 d2 d3 d4 d5 =>
    have ef : (xs.map fun x => x.1.data) = kvs.map fun x => x.1.data := by
      have q1 := congrArg (List.map NestedKey.data) (nk_fst d5)
      rw [List.map_map, List.map_map] at q1
      exact q1
    have back : ∀ l : List (NestedKey × Addr × Value), (∀ x ∈ l, Dp X.K B1 (.ref x.2.1) x.1.data) → DpAll X.K B1 (l.map fun x => .ref x.2.1) (l.map fun x => x.1.data) := by
      intro l
      induction l with
      | nil => intro _; exact .nil
      | cons x l ih => intro hl; exact .cons (hl x List.mem_cons_self) (ih fun y hy => hl y (List.mem_cons_of_mem _ hy))
    refine ⟨a, xs, rfl, d1, d2, d3, fun x hx => ⟨dp_mono k1.exB (nk_keys d5 x hx).1, (nk_keys d5 x hx).2⟩, by rw [ef]; exact hal, by rw [ef]; exact hso, fun l hl => q l _ B1 _ (k1.loose hl _) x1 (k1.laid hl _) upd_same ?_⟩
    have e2 : sortD (kvs.map fun x => x.1.data) = (xs.mergeSort (PySem.W.dataLe false fun x => x.1.data)).map fun x => x.1.data := by
      unfold sortD
      rw [← ef]
      exact (PySem.W.sort_maps (r := PySem.W.dataLe false fun x : NestedKey × Addr × Value => x.1.data) (s := PySem.W.dataLe false id) (fun x => x.1.data) (fun _ _ _ _ => rfl)).symm
    rw [e2]
    exact back _ fun x hx => (nk_keys d5 x ((List.mergeSort_perm _ _).mem_iff.mp hx)).1⟩
end
/-! ### dict(pairs), the keys tuples -/
def pairD (p : NestedKey × PyData) : PyData := .tuple [p.1.data, p.2]
section
variable {X : Cx} {pins : List (Addr × Obj)} {σ : L2.St} {H : Hp} {s : Shared}
theorem pairs_raw (I : Inv X pins σ H s) {B : Hp} (xB : Sub B H) : ∀ {kvs : List (NestedKey × PyData)} {vs : List V} {its : List Value}, DpAll X.K B vs (kvs.map pairD) → Vals vs its → (∀ p ∈ kvs, p.1.depth ≤ 8 ∧ ∃ ks, p.1 = .tup ks) →
    ∃ (Ts : List Addr) (ys : List (NestedKey × Addr × Value)), its = Ts.map .ref ∧ ys.length = Ts.length ∧ NkAll X.K B ys kvs ∧ ∀ (j : Nat) (k : NestedKey) (b : Addr) (v : Value), ys[j]? = some (k, b, v) → ∃ T, Ts[j]? = some T ∧ s.heap.IsTuple T #[.ref b, v]
  | [], _, _, h, r, _ => by
    cases h
    cases r
    exact ⟨[], [], rfl, rfl, .nil, fun j k b v z => by simp at z⟩
  | p :: kvs, _, _, .cons h t, .cons r rr, hd => by
    obtain ⟨Ts, ys, e1, e2, e3, e4⟩ := pairs_raw I xB t rr fun q hq => hd q (List.mem_cons_of_mem _ hq)
    obtain ⟨dp, ks, ek⟩ := hd p List.mem_cons_self
    have h' : Dp X.K B _ (.tuple [p.1.data, p.2]) := h
    cases h' with
    | @tup T us _ hs _ ht =>
    cases r
    obtain ⟨raw, rv, hT, _⟩ := I.tuple (hs.imp xB.rd id)
    cases ht with
    | cons t1 t2 =>
    cases t2 with
    | cons t2 t3 =>
    cases t3
    cases rv with
    | cons r1 r2 =>
    cases r2 with
    | cons r2 r3 =>
    cases r3
    rename_i u1 u2
    have t1' := t1
    rw [ek, NestedKey.data] at t1'
    cases t1' with
    | @tup ka _ _ _ _ _ =>
    cases r1
    refine ⟨T :: Ts, (p.1, ka, u2) :: ys, by rw [e1]; rfl, by simp [e2], .cons t1 dp r2 t2 e3, fun j k b v hj => ?_⟩
    cases j with
    | zero =>
      have e := Option.some.inj hj
      cases e
      obtain ⟨o, g1, g2, n, g3⟩ := hT
      exact ⟨T, rfl, o, g1, g2, n, g3⟩
    | succ j => exact e4 j k b v hj
def rDictN (K : PySem.W.Frag) (w : World) : List V → Hp → VK → Prop := fun xs H Q => ∃ (B : Hp) (a : Addr) (vs : List V) (kvs : List (NestedKey × PyData)), xs = [.ref a] ∧ Sub B H ∧ SqL K H a vs ∧ DpAll K B vs (kvs.map pairD) ∧ (∀ p ∈ kvs, p.1.depth ≤ 8 ∧ ∃ ks, p.1 = .tup ks) ∧ kvs.length ≤ 1000000 ∧
  ∀ (d : Addr) (ys : List (NestedKey × Addr × Value)), H d = none → (d == sysModules) = false → NkAll K B ys kvs → Q (.ref d) (upd H d (dnHO w d (storedAllH [] ys)))
theorem call_dictN (hc : X.calm = true) (hu : X.A.units + 100 < cLine) : CallR X (.type "dict") (rDictN X.K X.w) := by
  intro pins s σ H xs us Q I r ⟨B, a, vs, kvs, ex, xB, hq, hp, hk, hz, q⟩
  subst ex
  obtain ⟨u, eu, rx⟩ := vals1 r
  subst eu
  cases rx
  obtain ⟨its, rv, pl, _⟩ := I.list hq
  obtain ⟨Ts, ys, e1, e2, e3, e4⟩ := pairs_raw I xB hp rv hk
  obtain ⟨o, n, ho, hcl, hd, hdat⟩ := pl
  have yl : ys.length = kvs.length := e3.length
  let ps : List (Value × Value) := ys.map fun y => (.ref y.2.1, y.2.2)
  have okk : PlainSeq "list" s.heap a its.toArray ∧ PairItems s.heap its.toArray (fun j => Ts.getD j 0) ps := by
    refine ⟨⟨o, n, ho, hcl, hd, hdat⟩, by simp [ps, e1, e2], fun j k v hj => ?_⟩
    have hj' : (ys[j]?).map (fun y => (Value.ref y.2.1, y.2.2)) = some (k, v) := by rw [← List.getElem?_map]; exact hj
    cases hy : ys[j]? with
    | none => rw [hy] at hj'; cases hj'
    | some y =>
      obtain ⟨yk, yb, yv⟩ := y
      rw [hy] at hj'
      have e := Option.some.inj hj'
      cases e
      obtain ⟨T, hT, tt⟩ := e4 j yk yb yv hy
      have eT : Ts.getD j 0 = T := by rw [List.getD_eq_getElem?_getD, hT]; rfl
      refine ⟨?_, .inl (by show s.heap.IsTuple (Ts.getD j 0) _; rw [eT]; exact tt)⟩
      rw [e1]
      simp only [List.getElem?_toArray, List.getElem?_map, hT]
      rw [eT]; rfl
  have big : (s.heap.objs.size == sysModules) = false := beq_eq_false_iff_ne.mpr (Nat.ne_of_gt I.big)
  refine call_dict_pairsH (knd := nestedKind X.prog X.w) (PairArg.list a its.toArray (fun j => Ts.getD j 0) ps) (I.ok.hd hc) (by show X.A.units + 1 + 1 + 8 < cLine; omega) okk (ps := ys) ⟨by simp [ps], fun j key v hr => ?_⟩ (fun h' hk' x hx => ?_) (by simp [ps, yl, sizeLine_eq]; omega) fun h' tk hd' hkp => ?_
  · have hj' : (ys[j]?).map (fun y => (Value.ref y.2.1, y.2.2)) = some (key, v) := by rw [← List.getElem?_map]; exact hr
    cases hy : ys[j]? with
    | none => rw [hy] at hj'; cases hj'
    | some y =>
      obtain ⟨yk, yb, yv⟩ := y
      rw [hy] at hj'
      have e := Option.some.inj hj'
      cases e
      exact ⟨yk, yb, rfl, rfl⟩
  · have z := nk_keys e3 x hx
    have z2 := key_is I (dp_mono xB z.1) z.2
    exact ⟨NestedIs.at (fun a o vs n e _ => hk' a o (Nat.ne_of_lt (Heap.lt_size e)) (by simp) e) _ _ z2.1, z2.2⟩
  · exact ⟨.ref s.heap.objs.size, _, I.laid (a := s.heap.objs.size) (o := dnHO X.w s.heap.objs.size (storedAllH [] ys)) (t' := tk) (fun b o e => hkp b o (by simp) e) (Nat.le_refl _) (dn_ok (P := X.prog) hd'), rfl, q _ ys (I.hok.fresh (Nat.le_refl _)) big e3⟩
end
end G

set_option Elab.async false
set_option linter.all false
set_option maxRecDepth 100000
set_option maxHeartbeats 4000000
/- dict(pairs) as a new dict; sorted(dict(pairs)) -/
namespace G
open PySem L2 PySem.Spec PyProof.Rows
/-- a list that is data or new: what reads it -/
def DLd (X : Cx) (ρ : Env') (e : Expr) (xs : List PyData) (ρ' : Env') : Prop := ∀ F Z B H σ Q, Ok X.K F Z B H σ ρ →
  (∀ p us B' H', Ok X.K F Z B' H' σ ρ' → Sub B B' → SqL X.K H' p us → DpAll X.K B' us xs → Q (.ref p) H') → sE X e σ H Q
section
variable {X : Cx} {ρ ρ' ρ1 ρ2 ρ3 : Env'} {a b c e tg iter : Expr} {es : List Expr} {pos p : Pos} {xs ys : List PyData} {kvs : List (NestedKey × PyData)}
theorem DL.ld (h : DL X ρ e xs ρ1) : DLd X ρ e xs ρ1 := fun F Z B H σ Q k q => h F Z B H σ Q k fun p us B' H' k' x n hp t => q p us B' H' k' x (SqL.of hp) t
theorem DE.ld (h : DE X ρ e (.d (.list xs)) ρ1) : DLd X ρ e xs ρ1 := fun F Z B H σ Q k q => h F Z B H σ Q k fun v B' H' k' x w => by
  cases w with
  | lst s t => exact q _ _ B' H' k' x (s.imp k'.exB.rd id) t
theorem DE.ldo {i : Nat} (h : DE X ρ e (.o i) ρ1) (hs : ρ1[i]? = some (.o (.lst xs)) := by rfl) : DLd X ρ e xs ρ1 := fun F Z B H σ Q k q => h F Z B H σ Q k fun v B' H' k' x w => by
  obtain ⟨v', as, g1, g2, _⟩ := k'.ob (gS_some hs)
  have w' : gV σ i = some v := w
  rw [w'] at g1
  cases g1
  cases g2 with
  | lst h t => exact q _ _ B' H' k' x (SqL.of h) t
/-- dict(pairs), the keys tuples -/
theorem dd_pairs (hc : X.calm = true) (hu : X.A.units + 100 < cLine) (h : DLd X ρ e (kvs.map pairD) ρ1) (hk : ∀ p ∈ kvs, p.1.depth ≤ 8 ∧ ∃ ks, p.1 = .tup ks) (hz : kvs.length ≤ 1000000) (hm : X.mg "dict" = none) (hg : Gl X "dict" := by rfl)
    (he : starEach [e] X.env = (false, eval e X.env) :: starEach [] X.env := by rfl) (hpl : (backTo pos (starEach [] X.env)).any (·.1) = false := by rfl) : DD X ρ (.Call (.Name "dict" p) [e] [] pos) (putAllN [] kvs) ρ1 := fun F Z B H σ Q k q =>
  ⟨_, pe_callTy (call_dictN hc hu) hg hm PyProof.Rows.boot_dict (pa_cons pe_s pa_nil he) (by decide) (by decide) he hpl, h F Z B H σ _ k fun a us B1 H1 k1 x1 hs t => by
    refine ⟨B1, a, us, kvs, rfl, k1.exB, hs, t, hk, hz, fun d ys hd hsy nk => ?_⟩
    obtain ⟨g1, g2, g3⟩ := nk_putAll nk (.nil) (by simp)
    have gl : (storedAllH [] ys).length ≤ 1000000 := by
      have := nk.length
      simp at g3
      omega
    exact q d B1 _ (k1.loose hd _) x1 (k1.laid hd _) (.dn upd_same hsy gl g2 g1)⟩
end
/-! ### sorted(dict(pairs)), the keys whole numbers -/
def addI (ks : List Int) (k : Int) : List Int := if k ∈ ks then ks else ks ++ [k]
theorem mem_addI {k : Int} : ∀ {more ks : List Int}, k ∈ more.foldl addI ks ↔ k ∈ ks ∨ k ∈ more
  | [], ks => by simp
  | m :: more, ks => by
    rw [List.foldl_cons, mem_addI]
    unfold addI
    split
    · rename_i h
      constructor
      · rintro (a | a)
        · exact .inl a
        · exact .inr (List.mem_cons_of_mem _ a)
      · rintro (a | a)
        · exact .inl a
        · rcases List.mem_cons.mp a with e | a
          · exact .inl (e ▸ h)
          · exact .inr a
    · rw [List.mem_append, List.mem_singleton, List.mem_cons, or_assoc]
theorem addI_nodup : ∀ {more ks : List Int}, ks.Nodup → (more.foldl addI ks).Nodup
  | [], _, h => h
  | k :: more, ks, h => by
    rw [List.foldl_cons]
    refine addI_nodup ?_
    unfold addI
    split
    · exact h
    · rename_i hn
      rw [List.nodup_append]
      refine ⟨h, by simp, fun a ha b hb e => ?_⟩
      have : b = k := by simpa using hb
      exact hn (by rw [← this, ← e]; exact ha)
theorem addI_len : ∀ {more ks : List Int}, (more.foldl addI ks).length ≤ ks.length + more.length
  | [], _ => Nat.le_refl _
  | k :: more, ks => by
    rw [List.foldl_cons]
    refine Nat.le_trans addI_len ?_
    unfold addI
    split
    · simp
    · simp; omega
/-- the numbers once each, in order -/
def onceI (ks : List Int) : List Int := (ks.foldl addI []).mergeSort fun a b => decide (a ≤ b)
theorem mem_onceI {k : Int} {ks : List Int} : k ∈ onceI ks ↔ k ∈ ks := by
  unfold onceI
  rw [(List.mergeSort_perm _ _).mem_iff, mem_addI]
  simp
theorem onceI_ext {xs ys : List Int} (h : ∀ k, k ∈ xs ↔ k ∈ ys) : onceI xs = onceI ys := by
  have pw : ∀ l : List Int, (l.mergeSort fun a b => decide (a ≤ b)).Pairwise (fun a b => a ≤ b) := fun l => by
    have q := List.pairwise_mergeSort (le := fun a b : Int => decide (a ≤ b)) (fun a b c h1 h2 => by simp at *; omega) (fun a b => by simp; omega) l
    exact q.imp fun h => by simpa using h
  refine List.Perm.eq_of_pairwise (le := fun a b => a ≤ b) (fun a b _ _ h1 h2 => Int.le_antisymm h1 h2) (pw _) (pw _) ?_
  refine ((List.mergeSort_perm _ _).trans ?_).trans (List.mergeSort_perm _ _).symm
  refine (List.perm_ext_iff_of_nodup (addI_nodup (by simp)) (addI_nodup (by simp))).mpr fun k => ?_
  rw [mem_addI, mem_addI, h]
theorem keys_merge : ∀ {more : List (Int × V)} {ks : List Int} {kvs : List (Key × V)}, kvs.map (·.1) = ks.map Sum.inl → (mergeK kvs (more.map fun p => (Sum.inl p.1, p.2))).map (·.1) = ((more.map (·.1)).foldl addI ks).map Sum.inl
  | [], _, _, h => h
  | p :: more, ks, kvs, h => by
    show (mergeK (putK kvs (.inl p.1) p.2) (more.map fun p => (Sum.inl p.1, p.2))).map (·.1) = _
    rw [List.map_cons, List.foldl_cons]
    refine keys_merge ?_
    unfold putK addI
    have an : (kvs.any fun kv => decide (kv.1 = (.inl p.1 : Key))) = decide (p.1 ∈ ks) := by
      have e : (kvs.any fun kv => decide (kv.1 = (.inl p.1 : Key))) = (kvs.map (·.1)).any fun k => decide (k = (.inl p.1 : Key)) := by rw [List.any_map]; rfl
      rw [e, h, List.any_map]
      by_cases m : p.1 ∈ ks
      · rw [decide_eq_true m, List.any_eq_true]
        exact ⟨p.1, m, by simp⟩
      · rw [decide_eq_false m, List.any_eq_false]
        intro a ha z
        have : a = p.1 := by simpa using z
        exact m (this ▸ ha)
    rw [an]
    by_cases m : p.1 ∈ ks
    · rw [decide_eq_true m, if_pos rfl, if_pos m, ← h, List.map_map]
      refine List.map_congr_left fun a _ => ?_
      show (if a.1 = (.inl p.1 : Key) then (a.1, p.2) else a).1 = a.1
      split <;> rfl
    · rw [decide_eq_false m, if_neg (by decide), if_neg m, List.map_append, List.map_append, h]
      rfl
def pairI (p : Int × PyData) : PyData := .tuple [.int p.1, p.2]
theorem pairsI {K : PySem.W.Frag} {B : Hp} : ∀ {kvs : List (Int × PyData)} {vs : List V}, DpAll K B vs (kvs.map pairI) → ∃ (ps : List Addr) (rs : List (Int × V)), vs = ps.map V.ref ∧ rs.map (·.1) = kvs.map (·.1) ∧ Paired (fun p (kv : Key × V) => SqT K B p [kV kv.1, kv.2]) ps (rs.map fun p => (Sum.inl p.1, p.2))
  | [], _, h => by cases h; exact ⟨[], [], rfl, rfl, .nil⟩
  | p :: kvs, _, .cons h t => by
    obtain ⟨ps, rs, e1, e2, e3⟩ := pairsI t
    have h' : Dp K B _ (.tuple [.int p.1, p.2]) := h
    cases h' with
    | @tup T us _ hs _ ht =>
    cases ht with
    | cons t1 t2 =>
    cases t2 with
    | cons t2 t3 =>
    cases t3
    cases t1
    rename_i v2
    exact ⟨T :: ps, (p.1, v2) :: rs, by rw [e1]; rfl, by simp [e2], .cons hs e3⟩
section
variable {X : Cx} {ρ ρ' ρ1 ρ2 ρ3 : Env'} {a b c e tg iter : Expr} {es : List Expr} {pos p p1 p2 p3 : Pos} {xs ys : List PyData} {kvs : List (Int × PyData)}
theorem dl_onceI (hc : X.calm = true) (h : DLd X ρ e (kvs.map pairI) ρ1) (hz : kvs.length < 64) (md : X.mg "dict" = none) (ms : X.mg "sorted" = none) (hg : Gl X "dict" := by rfl) (hg2 : Gl X "sorted" := by rfl)
    (he : starEach [e] X.env = (false, eval e X.env) :: starEach [] X.env := by rfl) (hpl : (backTo p2 (starEach [] X.env)).any (·.1) = false := by rfl)
    (he2 : starEach [.Call (.Name "dict" p1) [e] [] p2] X.env = (false, eval (.Call (.Name "dict" p1) [e] [] p2) X.env) :: starEach [] X.env := by rfl) (hpl2 : (backTo pos (starEach [] X.env)).any (·.1) = false := by rfl) :
    DL X ρ (.Call (.Name "sorted" p) [.Call (.Name "dict" p1) [e] [] p2] [] pos) ((onceI (kvs.map (·.1))).map .int) ρ1 := fun F Z B H σ Q k q =>
  ⟨_, pe_callB (call_sortedDI hc) hg2 ms PyProof.Rows.boot_sorted (pa_cons (pe_callTy (call_dictP hc) hg md PyProof.Rows.boot_dict (pa_cons pe_s pa_nil he) (by decide) (by decide) he hpl) pa_nil he2) (by decide) (by decide) he2 hpl2, h F Z B H σ _ k fun a us B1 H1 k1 x1 hs t => by
    obtain ⟨ps, rs, e1, e2, e3⟩ := pairsI t
    subst e1
    have mono : ∀ {l : List Addr} {m : List (Key × V)}, Paired (fun p (kv : Key × V) => SqT X.K B1 p [kV kv.1, kv.2]) l m → Paired (fun p (kv : Key × V) => SqT X.K H1 p [kV kv.1, kv.2]) l m := by
      intro l m r
      induction r with
      | nil => exact .nil
      | cons h _ ih => exact .cons (h.imp k1.exB.rd id) ih
    refine ⟨a, ps, _, rfl, hs, mono e3, fun d hd => ?_⟩
    have ek : (mergeK [] (rs.map fun p => (Sum.inl p.1, p.2))).map (·.1) = ((rs.map (·.1)).foldl addI []).map Sum.inl := keys_merge (ks := []) rfl
    have len : ((rs.map (·.1)).foldl addI []).length < 64 := by
      refine Nat.lt_of_le_of_lt addI_len ?_
      rw [e2, List.length_map]
      simpa using hz
    refine ⟨d, _, _, rfl, .inl upd_same, ek, len, fun zs l hp hs2 hl => ?_⟩
    have ez : zs = onceI (kvs.map (·.1)) := by
      rw [← e2]
      refine List.Perm.eq_of_pairwise (le := fun a b => a ≤ b) (fun a b _ _ h1 h2 => Int.le_antisymm h1 h2) hs2 ?_ (hp.trans (List.mergeSort_perm _ _).symm)
      have q := List.pairwise_mergeSort (le := fun a b : Int => decide (a ≤ b)) (fun a b c h1 h2 => by simp at *; omega) (fun a b => by simp; omega) ((rs.map (·.1)).foldl addI [])
      exact q.imp fun h => by simpa using h
    subst ez
    have k2 := k1.loose hd (.dK (mergeK [] (rs.map fun p => (Sum.inl p.1, p.2))))
    exact q l _ B1 _ (k2.loose hl _) x1 (k2.laid hl _) upd_same (dpAll_ints _)⟩
end
end G

set_option Elab.async false
set_option linter.all false
set_option maxRecDepth 100000
set_option maxHeartbeats 4000000
/- what the defs lean on -/
namespace G
open PySem L2 PySem.Spec PyProof.Rows
theorem range_get {n i : Nat} {x : PyData} (h : (rangeD 0 ((n : Int)).toNat)[i]? = some x) : i < n ∧ x = .int i := by
  have hi : i < n := by
    have q := (List.getElem?_eq_some_iff.mp h).1
    rw [rangeD_len] at q
    simpa using q
  rw [rangeD_at (by simpa using hi)] at h
  exact ⟨hi, by rw [← Option.some.inj h]; simp⟩
/-- the built-in names that nobody writes -/
structure Bt (mg : Str → Option Value) : Prop where
  len_ : mg "len" = none
  range_ : mg "range" = none
  tuple_ : mg "tuple" = none
  sorted_ : mg "sorted" = none
  enumerate_ : mg "enumerate" = none
  repr_ : mg "repr" = none
  abs_ : mg "abs" = none
  int_ : mg "int" = none
  max_ : mg "max" = none
  min_ : mg "min" = none
  set_ : mg "set" = none
  dict_ : mg "dict" = none
  any_ : mg "any" = none
  all_ : mg "all" = none
  list_ : mg "list" = none
  sum_ : mg "sum" = none
  isinstance_ : mg "isinstance" = none
  bool_ : mg "bool" = none
  str_ : mg "str" = none
  zip_ : mg "zip" = none
/-- what is known of a def: where it stands, what it keeps -/
structure Df (K : PySem.W.Frag) (mg : Str → Option Value) (x : Str) (st : Stmt) (f : Addr) (fd : FuncData) (ps : List Str) : Prop where
  fn : Fun K x x st f fd
  mg : mg x = some (.ref f)
  kp : PySem.W.keepIn K (.ref f) = true
  bd : Binds K fd ps []
end G

set_option linter.all false
set_option maxRecDepth 100000
/- the defs, by places -/
namespace G
open PySem L2
def top (i : Nat) : Stmt := PySem.Challenge.pw_webstoldapart_k74_whole_squares_by_rests.main.body.getD i (.Pass ⟨0, 0, 0, 0⟩)
abbrev s_web_of_ties : Stmt := top 1
abbrev s_paley_web : Stmt := top 2
abbrev s_is_met_by : Stmt := top 4
abbrev s_meeting_names : Stmt := top 5
abbrev s_is_met : Stmt := top 6
abbrev s_rows_of_names : Stmt := top 7
abbrev s_all_patterns : Stmt := top 8
abbrev s_missing_wish : Stmt := top 9
abbrev sSrc : Stmt := top 11
abbrev sPick : Stmt := top 12
abbrev s__law_of : Stmt := top 13
abbrev sAny : Stmt := top 14
abbrev s__law_tie_web : Stmt := top 15
abbrev s__law_of_ties : Stmt := top 16
abbrev s__law_wishes : Stmt := top 17
abbrev s__law_meets : Stmt := top 18
abbrev s__law_missing : Stmt := top 19
abbrev s__law_paley : Stmt := top 20
abbrev s__law_square : Stmt := top 21
abbrev sLaw : Stmt := top 22
end G

set_option Elab.async false
set_option linter.all false
set_option maxRecDepth 100000
set_option maxHeartbeats 4000000
/- things once each, in order, walked -/
namespace G
open PySem L2 PySem.Spec PyProof.Rows
theorem putAll_const (v : PyData) : ∀ (more ks : List NestedKey), putAllN (ks.map fun k => (k, v)) (more.map fun k => (k, v)) = (more.foldl addK ks).map fun k => (k, v)
  | [], _ => rfl
  | k :: more, ks => by
    have e : putN (ks.map fun k => (k, v)) k v = (addK ks k).map fun k => (k, v) := by
      unfold putN addK
      have ef : (ks.map fun k => (k, v)).map (·.1) = ks := by rw [List.map_map]; exact List.map_id _
      rw [ef]
      split
      · rw [List.map_map]
        refine List.map_congr_left fun a _ => ?_
        show (if a = k then (a, v) else (a, v)) = _
        split <;> rfl
      · rw [List.map_append]; rfl
    show putAllN (putN (ks.map fun k => (k, v)) k v) (more.map fun k => (k, v)) = _
    rw [e, putAll_const v more, List.foldl_cons]
theorem dl_is {X : Cx} {ρ ρ1 : Env'} {e : Expr} {xs ys : List PyData} (h : xs = ys) (q : DL X ρ e xs ρ1) : DL X ρ e ys ρ1 := h ▸ q
/-- the keys once each, in order -/
def onceK (ks : List NestedKey) : List NestedKey := sortK (ks.foldl addK [])
theorem mem_onceK {k : NestedKey} {ks : List NestedKey} : k ∈ onceK ks ↔ k ∈ ks := by
  unfold onceK
  rw [mem_sortK, mem_addAll]
  simp
theorem onceK_ext {xs ys : List NestedKey} (h : ∀ k, k ∈ xs ↔ k ∈ ys) (ha : ∀ a ∈ xs, ∀ b ∈ xs, PySem.W.alike a.data b.data = true) : onceK xs = onceK ys := by
  refine sortK_ext (addAll_nodup (by simp)) (addAll_nodup (by simp)) (fun k => ?_) fun a ha' b hb' => ?_
  · rw [mem_addAll, mem_addAll, h]
  · exact ha a (by simpa using mem_addAll.mp ha') b (by simpa using mem_addAll.mp hb')
/-- things that can be put in order -/
structure Kin (ks : List NestedKey) : Prop where
  tup : ∀ k ∈ ks, ∃ a r, k = .tup (a :: r)
  dep : ∀ k ∈ ks, k.depth ≤ 8
  al : ∀ a ∈ ks, ∀ b ∈ ks, PySem.W.alike a.data b.data = true
def psOnce (ds : List PyData) (d : PyData) : Prop := (∃ ks : List Int, ks.length < 64 ∧ ds = [.list (ks.map .int)] ∧ d = .tuple ((onceI ks).map .int)) ∨ (∃ ks : List NestedKey, ks.length < 1000 ∧ Kin ks ∧ ds = [.list (ks.map NestedKey.data)] ∧ d = (NestedKey.tup (onceK ks)).data)
end G

set_option Elab.async false
set_option linter.all false
set_option maxRecDepth 100000
set_option maxHeartbeats 4000000
/- webs, the sort between two names, looks, walked -/
namespace G
open PySem L2 PySem.Spec PyProof.Rows
/-! ### keys of numbers and tuples alone -/
inductive Pl : NestedKey → Prop
  | num {i : Int} : Pl (.num i)
  | tup {ks : List NestedKey} : (∀ k ∈ ks, Pl k) → Pl (.tup ks)
theorem canLay_alls : ∀ {ks : List NestedKey}, (∀ k ∈ ks, k.data.canLay0 = true) → PyData.canLayAll0 (NestedKey.datas ks) = true
  | [], _ => by simp [NestedKey.datas, PyData.canLayAll0]
  | k :: ks, h => by
    simp only [NestedKey.datas, PyData.canLayAll0, h k List.mem_cons_self, canLay_alls fun a ha => h a (List.mem_cons_of_mem _ ha)]
    rfl
theorem pl_canLay {k : NestedKey} (h : Pl k) : k.data.canLay0 = true := by
  induction h with
  | num => simp [NestedKey.data, PyData.canLay0]
  | tup _ ih =>
    simp only [NestedKey.data, PyData.canLay0]
    exact canLay_alls ih
theorem pl_shaped {k : NestedKey} (h : Pl k) (hd : k.depth ≤ 64) : SeqAt.shaped k.data = true := by
  show (k.data.canLay0 && decide (k.data.depth ≤ 64)) = true
  rw [pl_canLay h, nk_depth, decide_eq_true hd]; rfl
/-! ### webs -/
structure Wb where
  n : Nat
  col : List Int
  arr : List (Int × Int)
def pK (p : Int × Int) : NestedKey := .tup [.num p.1, .num p.2]
def wbK (W : Wb) : NestedKey := .tup [.num W.n, .tup (W.col.map .num), .tup (W.arr.map pK)]
def wbD (W : Wb) : PyData := .tuple [.int W.n, .tuple (W.col.map .int), .tuple ((W.arr.map pK).map NestedKey.data)]
theorem wbK_data (W : Wb) : (wbK W).data = wbD W := by
  unfold wbK wbD
  rw [NestedKey.data, NestedKey.datas, NestedKey.datas, NestedKey.datas, NestedKey.datas]
  have e1 : (NestedKey.tup (W.col.map .num)).data = .tuple (W.col.map .int) := by rw [NestedKey.data, datas_map, List.map_map]; rfl
  have e2 : (NestedKey.tup (W.arr.map pK)).data = .tuple ((W.arr.map pK).map NestedKey.data) := by rw [NestedKey.data, datas_map]
  rw [e1, e2]
  rfl
theorem pK_inj {p q : Int × Int} (h : pK p = pK q) : p = q := by
  have e := NestedKey.tup.inj h
  injection e with e1 e
  injection e with e2 _
  exact Prod.ext (NestedKey.num.inj e1) (NestedKey.num.inj e2)
theorem pK_pl (p : Int × Int) : Pl (pK p) := .tup fun k hk => by
  rcases List.mem_cons.mp hk with rfl | hk
  · exact .num
  · rw [List.mem_singleton.mp hk]; exact .num
theorem pK_depth (p : Int × Int) : (pK p).depth ≤ 1 := by simp [pK, NestedKey.depth, NestedKey.depthAll]
theorem arr_pl (l : List (Int × Int)) : Pl (.tup (l.map pK)) := .tup fun k hk => by
  obtain ⟨p, _, rfl⟩ := List.mem_map.mp hk
  exact pK_pl p
theorem arr_depth (l : List (Int × Int)) : (NestedKey.tup (l.map pK)).depth ≤ 2 := by
  rw [NestedKey.depth]
  have : NestedKey.depthAll (l.map pK) ≤ 1 := depthAll_le fun k hk => by
    obtain ⟨p, _, rfl⟩ := List.mem_map.mp hk
    exact pK_depth p
  omega
theorem arr_shaped (l : List (Int × Int)) : SeqAt.shaped (.tuple ((l.map pK).map NestedKey.data)) = true := by
  have e : (NestedKey.tup (l.map pK)).data = .tuple ((l.map pK).map NestedKey.data) := by rw [NestedKey.data, datas_map]
  rw [← e]
  exact pl_shaped (arr_pl l) (Nat.le_trans (arr_depth l) (by omega))
/-- what is asked of a web -/
structure Wb.Ok (W : Wb) : Prop where
  n9 : W.n ≤ 20
  lc : W.col.length = W.n
/-- 1 for an arrow there, 2 for one back -/
def sortB (W : Wb) (x y : Int) : Int := (if (x, y) ∈ W.arr then 1 else 0) + 2 * (if (y, x) ∈ W.arr then 1 else 0)
theorem sortB_nn (W : Wb) (x y : Int) : 0 ≤ sortB W x y := by
  unfold sortB
  split <;> split <;> decide
theorem in_arr (W : Wb) (x y : Int) : (((W.arr.map pK).map NestedKey.data).any fun z => PyData.eqv z (pK (x, y)).data) = decide ((x, y) ∈ W.arr) := by
  rw [any_nk]
  by_cases h : (x, y) ∈ W.arr
  · rw [decide_eq_true h, decide_eq_true (List.mem_map_of_mem h)]
  · rw [decide_eq_false h, decide_eq_false fun z => ?_]
    obtain ⟨p, hp, e⟩ := List.mem_map.mp z
    exact h (pK_inj e ▸ hp)
end G

set_option Elab.async false
set_option linter.all false
set_option maxRecDepth 100000
set_option maxHeartbeats 4000000
/- looks of names, walked -/
namespace G
open PySem L2 PySem.Spec PyProof.Rows
section
variable {X : Cx} {ρ ρ' ρ1 ρ2 : Env'} {tg a b c e : Expr} {pos : Pos} {st : Stmt} {rest sts as bs : List Stmt} {o : O} {d : PyData}
theorem db_rtW (h : DB X ρ sts (.rt d ρ1)) (w : Wk ρ1 ρ2) : DB X ρ sts (.rt d ρ2) := fun F Z B H σ D k q => h F Z B H σ D k fun v B' H' σ' k' x => q v B' H' σ' (k'.weak w) x
theorem ds_asg {js : List Nat} (he : DE X ρ e (.d d) ρ1) (hg : DG X ρ1 tg d js ρ2) (hs : swapsWithSole [tg] e pos.line X.env = pure false := by rfl) (hw : swappedStores [tg] e X.env = pure none := by rfl)
    (h1 : (assignEach [tg] X.env).map (·.2) = [assign tg X.env] := by rfl) : DS X ρ (.Assign [tg] e pos) (.nx ρ2) := fun F Z B H σ D k q =>
  ⟨_, ps_asg pe_s pg_s hs hw h1, he F Z B H σ _ k fun v B1 H1 k1 x1 w1 => hg F Z B1 H1 σ v _ k1 w1 fun B2 H2 σ2 k2 x2 _ => q B2 H2 σ2 k2 (x1.trans x2)⟩
theorem dt_neSame {x : Str} (ha : DE X ρ a (.d (.str x)) ρ1) (hb : DE X ρ1 b (.d (.str x)) ρ2) : DT X ρ (.Compare a [.NotEq] [b] pos) false ρ2 := dt_is (dt_neS ha hb) (by simp)
theorem dw_orF {es : List Expr} (h : DT X ρ a false ρ1) (h1 : DW X ρ1 (.BoolOp .Or (b :: es) pos) false ρ2) : DW X ρ (.BoolOp .Or (a :: b :: es) pos) false ρ2 := dw_or h (fun _ => h1) (fun z => nomatch z)
theorem dw_andF {es : List Expr} (h : DT X ρ a false ρ1) : DW X ρ (.BoolOp .And (a :: b :: es) pos) false ρ1 := dw_and (y := false) h (fun z => nomatch z) (fun _ => rfl)
theorem dw_andT {es : List Expr} {y : Bool} (h : DT X ρ a true ρ1) (h1 : DW X ρ1 (.BoolOp .And (b :: es) pos) y ρ2) : DW X ρ (.BoolOp .And (a :: b :: es) pos) y ρ2 := by
  have q := dw_and (y := y) h (fun _ => h1) (fun z => nomatch z)
  rw [Bool.true_and] at q
  exact q
end
def nameD (x : Int) : PyData := .int x
def inD (f : Int → Bool) : PyData → Bool
  | .int x => f x
  | _ => false
def intD (f : Int → PyData) : PyData → PyData
  | .int x => f x
  | x => x
theorem filter_ints (f : Int → Bool) (l : List Int) : (l.map PyData.int).filter (inD f) = (l.filter f).map PyData.int := by
  rw [List.filter_map]; rfl
theorem map_ints (f : Int → PyData) (l : List Int) : (l.map PyData.int).map (intD f) = l.map f := by
  rw [List.map_map]; rfl
/-- the names of a web -/
def names (n : Nat) : List Int := (List.range n).map fun (i : Nat) => (i : Int)
theorem names_D (n : Nat) : rangeD 0 ((n : Int)).toNat = (names n).map PyData.int := by
  unfold rangeD names
  rw [List.map_map, Int.toNat_natCast]
  refine List.map_congr_left fun i _ => ?_
  show PyData.int (0 + (i : Int)) = .int (i : Int)
  rw [Int.zero_add]
theorem names_len (n : Nat) : (names n).length = n := by unfold names; simp
theorem mem_names {n : Nat} {x : Int} : x ∈ names n ↔ 0 ≤ x ∧ x < n := by
  unfold names
  rw [List.mem_map]
  constructor
  · rintro ⟨i, hi, rfl⟩
    have := List.mem_range.mp hi
    omega
  · rintro ⟨h1, h2⟩
    exact ⟨x.toNat, List.mem_range.mpr (by omega), by omega⟩
def colAt (W : Wb) (x : Int) : Int := W.col.getD x.toNat 0
theorem at_col {W : Wb} (h : W.Ok) {x : Int} (hx : x ∈ names W.n) : atI (W.col.map PyData.int) x = some (.int (colAt W x)) := by
  obtain ⟨h1, h2⟩ := mem_names.mp hx
  have hl := h.lc
  have hi : x.toNat < W.col.length := by omega
  unfold atI
  have : ixN (W.col.map PyData.int).length x = some x.toNat := by
    unfold ixN
    rw [List.length_map]
    simp [h1]
    omega
  rw [this]
  show (W.col.map PyData.int)[x.toNat]? = _
  unfold colAt
  rw [List.getElem?_map, List.getD_eq_getElem?_getD, List.getElem?_eq_getElem hi]
  rfl
/-- what ties a name to others: the sorts, with their colors -/
def nearS (W : Wb) (x : Int) : List (Int × Int) := (((names W.n).filter fun y => !decide (y = x)).map fun y => (sortB W x y, colAt W y)).filter fun p => decide (0 < p.1)
def nearK (W : Wb) (x : Int) : NestedKey := .tup (onceK ((nearS W x).map pK))
theorem kin_pairs (l : List (Int × Int)) : Kin (l.map pK) := by
  refine ⟨fun k hk => ?_, fun k hk => ?_, fun a ha b hb => ?_⟩
  · obtain ⟨p, _, rfl⟩ := List.mem_map.mp hk
    exact ⟨_, _, rfl⟩
  · obtain ⟨p, _, rfl⟩ := List.mem_map.mp hk
    exact Nat.le_trans (pK_depth p) (by omega)
  · obtain ⟨p, _, rfl⟩ := List.mem_map.mp ha
    obtain ⟨q, _, rfl⟩ := List.mem_map.mp hb
    simp [pK, NestedKey.data, NestedKey.datas, PySem.W.alike, PySem.W.alikeAll]
theorem psOnce_k {ks : List NestedKey} (h : ks.length < 1000) (k : Kin ks) : psOnce [.list (ks.map NestedKey.data)] (NestedKey.tup (onceK ks)).data := .inr ⟨ks, h, k, rfl, rfl⟩
theorem psOnce_i {ks : List Int} (h : ks.length < 64) : psOnce [.list (ks.map .int)] (.tuple ((onceI ks).map .int)) := .inl ⟨ks, h, rfl, rfl⟩
theorem mem_pKs {p : Int × Int} {l : List (Int × Int)} : pK p ∈ l.map pK ↔ p ∈ l := by
  rw [List.mem_map]
  exact ⟨fun ⟨q, h, e⟩ => pK_inj e ▸ h, fun h => ⟨p, h, rfl⟩⟩
end G

set_option Elab.async false
set_option linter.all false
set_option maxRecDepth 100000
set_option maxHeartbeats 4000000
/- far looks, walked -/
namespace G
open PySem L2 PySem.Spec PyProof.Rows
def numsK (l : List Int) : NestedKey := .tup (l.map .num)
theorem numsK_data (l : List Int) : (numsK l).data = .tuple (l.map .int) := by
  unfold numsK
  rw [NestedKey.data, datas_map, List.map_map]; rfl
def farS (W : Wb) (x : Int) : List Int := (names W.n).filter fun y => !decide (y = x) && decide (sortB W x y = 0)
def farK (W : Wb) (x : Int) : NestedKey := .tup [.num (colAt W x), nearK W x, numsK (onceI ((farS W x).map (colAt W)))]
theorem look_data (c : Int) (k : NestedKey) (l : List Int) : (NestedKey.tup [.num c, k, numsK l]).data = .tuple [.int c, k.data, .tuple (l.map .int)] := by
  rw [NestedKey.data, NestedKey.datas, NestedKey.datas, NestedKey.datas, NestedKey.datas, numsK_data]
  rfl
end G

set_option Elab.async false
set_option linter.all false
set_option maxRecDepth 100000
set_option maxHeartbeats 4000000
/- a new list, times a number -/
namespace G
open PySem L2 PySem.Spec PyProof.Rows
theorem DpAll.rep {K : PySem.W.Frag} {B : Hp} {vs : List V} {xs : List PyData} (h : DpAll K B vs xs) : ∀ k : Nat, DpAll K B (List.replicate k vs).flatten (List.replicate k xs).flatten
  | 0 => .nil
  | k + 1 => by
    rw [List.replicate_succ, List.replicate_succ, List.flatten_cons, List.flatten_cons]
    exact G.DpAll.append h (DpAll.rep h k)
section
variable {X : Cx} {ρ ρ1 ρ2 : Env'} {a b : Expr} {pos : Pos} {xs : List PyData} {k : Int}
theorem dl_rep (h0 : 0 ≤ k) (h1 : k < 1000) (hz : xs.length * k.toNat ≤ sizeLine) (ha : DL X ρ a xs ρ1) (hb : DE X ρ1 b (.d (.int k)) ρ2) : DL X ρ (.BinOp a .Mult b pos) (List.replicate k.toNat xs).flatten ρ2 := fun F Z B H σ Q kk q =>
  ⟨_, pe_op op_rep pe_s pe_s, ha F Z B H σ _ kk fun p us B1 H1 k1 x1 n1 hp1 t1 => by
    refine hb _ _ B1 H1 σ _ (k1.lock n1 hp1) fun v2 B2 H2 k2 x2 w2 => ?_
    obtain ⟨k3, n3, h3⟩ := k2.unlock n1.f n1.z
    have l1 := DpAll.length t1
    cases w2
    refine ⟨p, k, us, rfl, rfl, h3, by omega, by omega, by rw [l1]; exact hz, fun l hl => ?_⟩
    exact q l _ B2 _ (k3.loose hl _) (x1.trans x2) (k3.laid hl _) upd_same (DpAll.rep (dpAll_mono x2 t1) k.toNat)⟩
end
end G

set_option Elab.async false
set_option linter.all false
set_option maxRecDepth 100000
set_option maxHeartbeats 4000000
/- more rules: pop(i), xs[i] = y, (x,) * n, list(range(n)), any, loops that leave early -/
namespace G
open PySem L2 PySem.Spec PyProof.Rows
theorem DpAll.erase {K : PySem.W.Frag} {B : Hp} : ∀ {vs : List V} {xs : List PyData} (k : Nat), DpAll K B vs xs → DpAll K B (vs.eraseIdx k) (xs.eraseIdx k)
  | _, _, _, .nil => .nil
  | _, _, 0, .cons _ t => t
  | _, _, k + 1, .cons h t => .cons h (DpAll.erase k t)
theorem DpAll.setAt {K : PySem.W.Frag} {B : Hp} {v : V} {x : PyData} (w : Dp K B v x) : ∀ {vs : List V} {xs : List PyData} (k : Nat), DpAll K B vs xs → DpAll K B (vs.set k v) (xs.set k x)
  | _, _, _, .nil => .nil
  | _, _, 0, .cons _ t => .cons w t
  | _, _, k + 1, .cons h t => .cons h (DpAll.setAt w k t)
theorem DpAll.at' {K : PySem.W.Frag} {B : Hp} {x : PyData} : ∀ {vs : List V} {xs : List PyData} {k : Nat}, DpAll K B vs xs → xs[k]? = some x → ∃ v, vs[k]? = some v ∧ Dp K B v x
  | _, _, k, .nil, h => by simp at h
  | v :: vs, y :: ys, 0, .cons w _, h => by
    simp only [List.getElem?_cons_zero, Option.some.injEq] at h
    exact ⟨v, rfl, h ▸ w⟩
  | v :: vs, y :: ys, k + 1, .cons _ t, h => by
    simp only [List.getElem?_cons_succ] at h
    exact DpAll.at' (vs := vs) t h
section
variable {X : Cx} {ρ ρ1 ρ2 ρ' : Env'} {tg iter a b c e : Expr} {pos p p2 p3 : Pos} {xs : List PyData} {body rest as : List Stmt} {o : O}
/-- xs.pop(k), xs a list of our own -/
theorem de_popAt {i : Nat} {x : PyData} {z : Int} {k : Nat} {apos : Pos} (hk : z = (k : Int)) (hz : xs.length ≤ 100000) (hx : xs[k]? = some x) (h0 : DE X ρ a (.o i) ρ1) (h : DE X ρ1 e (.d (.int z)) ρ2) (hs0 : ρ1[i]? = some (.o (.lst xs)) := by rfl) (hs : ρ2[i]? = some (.o (.lst xs)) := by rfl)
    (hbase : attributeBase a "pop" X.env (eval a X.env) = eval a X.env := by rfl)
    (hfew : ((backTo p (starEach [e] X.env)).all (fun x => !x.1) && (backToKw p (keywordEach [] X.env)).all (fun x => x.1.isSome) && decide ([e].length + ([] : List Keyword).length + (if ([] : List Keyword).isEmpty then 0 else 1) < 30)) = true := by rfl)
    (hline : (apos.endLine == p.line) = true := by rfl) (he : starEach [e] X.env = (false, eval e X.env) :: starEach [] X.env := by rfl) (hpl : (backTo p (starEach [] X.env)).any (·.1) = false := by rfl) :
    DE X ρ (.Call (.Attribute a "pop" apos) [e] [] p) (.d x) (ρ2.set i (.o (.lst (xs.eraseIdx k)))) := fun F Z B H σ Q kk q =>
  ⟨_, pe_bm PySem.F.plainAttrs_list PySem.F.slot_list_pop PySem.F.type_list_pop mt_popAt pe_s (pa_cons pe_s pa_nil he) hbase hfew hline he hpl, h0 F Z B H σ _ kk fun v B1 H1 k1 x1 w1 => by
    obtain ⟨v', as, g1, g2, _⟩ := k1.ob (gS_some hs0)
    have w' : gV σ i = some v := w1
    rw [w'] at g1
    cases g1
    cases g2 with
    | @lst l us _ hl t =>
    refine ⟨.inl ⟨rfl, us, SqL.of hl⟩, h F Z B1 H1 σ _ k1 fun u B2 H2 k2 x2 w2 => ?_⟩
    obtain ⟨v', as, g1, g2, _⟩ := k2.ob (gS_some hs)
    rw [w'] at g1
    cases g1
    cases g2 with
    | @lst _ us2 _ hl2 t2 =>
    obtain ⟨y, hy, dy⟩ := DpAll.at' t2 hx
    have ll := DpAll.length t2
    have kl := (List.getElem?_eq_some_iff.mp hx).1
    have dz : Dp X.K B2 u (.int z) := w2
    cases dz
    refine ⟨l, us2, z, k, y, rfl, rfl, hl2, by omega, by omega, ?_, hy, ?_⟩
    · rw [hk, seqIndex_of (by omega) (by omega)]; simp
    refine q y B2 _ (k2.turn (gS_some hs) w' (.lst hl2 t2) (.lst upd_same (G.DpAll.erase k t2)) fun b hb => ?_) (x1.trans x2) dy
    rw [upd_ne fun z => hb (by rw [z]; exact List.mem_singleton.mpr rfl)]⟩
/-- xs[z] = .., xs a list of our own -/
theorem dg_ixL {i j : Nat} {y : PyData} {z : Int} (hj : ixN xs.length z = some j) (ho : DE X ρ a (.o i) ρ1) (hi : DE X ρ1 b (.d (.int z)) ρ2) (hs : ρ2[i]? = some (.o (.lst xs)) := by rfl)
    (ha : ∀ v, assign (.Subscript a b pos) X.env v = (do
      let ov ← holding [v] (eval a X.env)
      let iv ← holding [v, ov] (eval b X.env)
      standAt pos
      holding [v, ov, iv] (setItem ov iv v)
      release [v, ov, iv] []) := by intro _; rfl) : DG X ρ (.Subscript a b pos) y [] (ρ2.set i (.o (.lst (xs.set j y)))) := fun F Z B H σ v Q k w q =>
  ⟨_, pg_sub pe_s pe_s set_list ha, ho F Z B H σ _ k fun ov B1 H1 k1 x1 w1 => hi F Z B1 H1 σ _ k1 fun iv B2 H2 k2 x2 w2 => by
    obtain ⟨v', as, g1, g2, _⟩ := k2.ob (gS_some hs)
    have w' : gV σ i = some ov := w1
    rw [w'] at g1
    cases g1
    cases g2 with
    | @lst l us _ hl t =>
    have dz : Dp X.K B2 iv (.int z) := w2
    cases dz
    refine ⟨l, us, z, j, rfl, rfl, hl, by rw [DpAll.length t]; exact hj, ?_⟩
    refine q B2 _ σ (k2.turn (gS_some hs) w' (.lst hl t) (.lst upd_same (G.DpAll.setAt (dp_mono (x1.trans x2) w) j t)) fun b hb => ?_) (x1.trans x2) fun _ _ => rfl
    rw [upd_ne fun z => hb (by rw [z]; exact List.mem_singleton.mpr rfl)]⟩
theorem rg_rangeD {K : PySem.W.Frag} {B : Hp} (n : Int) : DpAll K B (rgV 0 n) (rangeD 0 n.toNat) := by
  unfold rgV rangeD
  rw [show (n - 0).toNat = n.toNat by omega]
  induction List.range n.toNat with
  | nil => exact .nil
  | cons i l ih => exact .cons (.int _) ih
/-- list(range(n)) -/
theorem dl_listRg {n : Int} (hc : X.calm = true) (ml : X.mg "list" = none) (mr : X.mg "range" = none) (hn : 0 ≤ n ∧ n ≤ 100000) (h : DE X ρ e (.d (.int n)) ρ1) (hgl : Gl X "list" := by rfl) (hgr : Gl X "range" := by rfl)
    (na1 : starEach [e] X.env = (false, eval e X.env) :: starEach [] X.env := by rfl) (na : starEach [.Call (.Name "range" p2) [e] [] p3] X.env = (false, eval (.Call (.Name "range" p2) [e] [] p3) X.env) :: starEach [] X.env := by rfl) :
    DL X ρ (.Call (.Name "list" p) [.Call (.Name "range" p2) [e] [] p3] [] pos) (rangeD 0 n.toNat) ρ1 := fun F Z B H σ Q k q =>
  ⟨_, pe_listRg hc hgl ml (prg_1 hgr mr pe_s na1) na, h F Z B H σ _ k fun v B1 H1 k1 x1 w1 => by
    have dz : Dp X.K B1 v (.int n) := w1
    cases dz
    exact ⟨n, rfl, RgOk.of_le (by omega) (by omega) (by omega) (by omega), fun l hl => q l _ B1 _ (k1.loose hl _) x1 (k1.laid hl _) upd_same (rg_rangeD n)⟩⟩
/-- (..) * n -/
theorem de_repT {k : Int} (h0 : 2 ≤ k) (h1 : k ≤ 1000) (hne : xs ≠ []) (hz : xs.length ≤ 1000) (ha : DE X ρ a (.d (.tuple xs)) ρ1) (hb : DE X ρ1 b (.d (.int k)) ρ2) : DE X ρ (.BinOp a .Mult b pos) (.d (.tuple (List.replicate k.toNat xs).flatten)) ρ2 := fun F Z B H σ Q kk q =>
  ⟨_, pe_op op_repN pe_s pe_s, DE.two ha hb kk fun v1 v2 B2 H2 k2 x w1 w2 => by
    obtain ⟨p, vs, e, s, sB, t⟩ := tup_at k2 w1
    have dz : Dp X.K B2 v2 (.int k) := w2
    cases dz
    have l1 := DpAll.length t
    refine ⟨p, k, vs, e, rfl, s, fun z => hne ?_, h0, h1, by rw [l1]; exact hz, k2.newT (DpAll.rep t k.toNat) fun v B3 H3 k3 x3 w3 => q v B3 H3 k3 (x.trans x3) w3⟩
    rw [z] at l1
    exact List.eq_nil_of_length_eq_zero l1.symm⟩
/-- a loop that leaves as soon as one is bad -/
theorem db_forAll (bs : List Bool) (d : PyData) (hl : bs.length = xs.length) (hp : PassesOwn (model X.prog X.w) X.A X.env X.xe) (hc : X.calm = true) (hi : DI X ρ tg iter xs ρ1)
    (turn : ∀ (i : Nat) (x : PyData) (b : Bool), xs[i]? = some x → bs[i]? = some b → ∃ ρt js, DG X ρ1 tg x js ρt ∧ (b = true → DB X ρt body (.nx ρ1)) ∧ (b = false → DB X ρt body (.rt d ρ1)))
    (go : bs.all id = true → DB X ρ1 rest o) (bad : bs.all id = false → o = .rt d ρ1)
    (hs : ∀ x, foldedSetIterable iter X.env x = pure x := by intro _; rfl) : DB X ρ (.For tg iter body [] pos :: rest) o := by
  cases hb : bs.all id with
  | true =>
    refine db_cons (ds_for hp hc hi (fun _ => ρ1) (.refl _) (fun i x hx => ?_) rfl hs) (go hb)
    have hi' : i < bs.length := by rw [hl]; exact (List.getElem?_eq_some_iff.mp hx).1
    obtain ⟨ρt, js, h1, h2, _⟩ := turn i x _ hx (List.getElem?_eq_getElem hi')
    exact ⟨ρt, js, h1, h2 ((List.all_eq_true.mp hb) _ (List.getElem_mem hi'))⟩
  | false =>
    obtain rfl := bad hb
    have ⟨m, hm, e, lo⟩ : ∃ m, ∃ hm : m < bs.length, bs[m] = false ∧ ∀ i (h : i < bs.length), i < m → bs[i] = true := by
      clear hl turn go bad
      induction bs with
      | nil => simp at hb
      | cons b bs ih =>
        cases b with
        | false => exact ⟨0, by simp, rfl, fun i _ z => absurd z (Nat.not_lt_zero i)⟩
        | true =>
          obtain ⟨m, hm, e, lo⟩ := ih (by simpa using hb)
          refine ⟨m + 1, by simpa using hm, by simpa using e, fun i h z => ?_⟩
          cases i with
          | zero => rfl
          | succ i => simpa using lo i (by simpa using h) (by omega)
    refine db_rt (for_leaves hp hc hi m (by rw [← hl]; exact hm) (fun _ => ρ1) (.refl _) (fun i x him hx => ?_) (fun x hx => ?_) hs)
    · have hi' : i < bs.length := by rw [hl]; exact (List.getElem?_eq_some_iff.mp hx).1
      obtain ⟨ρt, js, h1, h2, _⟩ := turn i x _ hx (List.getElem?_eq_getElem hi')
      exact ⟨ρt, js, _, h1, .inl (h2 (lo i hi' him)), .refl _⟩
    · obtain ⟨ρt, js, h1, _, h3⟩ := turn m x _ hx (List.getElem?_eq_getElem hm)
      exact ⟨ρt, js, h1, .inl ⟨_, _, h3 e, rfl⟩⟩
theorem db_forMap {α : Type} (l : List α) (G' : α → PyData) (f : α → Bool) (d : PyData) (hp : PassesOwn (model X.prog X.w) X.A X.env X.xe) (hc : X.calm = true) (hi : DI X ρ tg iter (l.map G') ρ1)
    (turn : ∀ x ∈ l, ∃ ρt js, DG X ρ1 tg (G' x) js ρt ∧ (f x = true → DB X ρt body (.nx ρ1)) ∧ (f x = false → DB X ρt body (.rt d ρ1)))
    (go : l.all f = true → DB X ρ1 rest o) (bad : l.all f = false → o = .rt d ρ1)
    (hs : ∀ x, foldedSetIterable iter X.env x = pure x := by intro _; rfl) : DB X ρ (.For tg iter body [] pos :: rest) o := by
  have e : (l.map f).all id = l.all f := by rw [List.all_map]; rfl
  refine db_forAll (l.map f) d (by simp) hp hc hi (fun i x b hx hb => ?_) (by rw [e]; exact go) (by rw [e]; exact bad) hs
  rw [List.getElem?_map] at hx hb
  cases hli : l[i]? with
  | none => rw [hli] at hx; cases hx
  | some y =>
    rw [hli] at hx hb
    cases hx
    cases hb
    exact turn y (List.mem_of_getElem? hli)
/-- if c: return d, as a turn -/
theorem turn_if {v : Bool} {d : PyData} {ρt ρa ρr : Env'} (h : DT X ρt c (!v) ρa) (hr : DB X ρa as (.rt d ρr)) (w : Wk ρa ρ1) (w' : Wk ρr ρ1) : (v = true → DB X ρt [.If c as [] pos] (.nx ρ1)) ∧ (v = false → DB X ρt [.If c as [] pos] (.rt d ρ1)) := by
  constructor
  · rintro rfl
    exact db_weak (db_ifF h db_nil) w
  · rintro rfl
    exact db_ifT h (db_rtW hr w')
/-- a turn whose last statement is a loop -/
theorem turn_all {v : Bool} {d : PyData} {ρt ρa : Env'} {sts : List Stmt} (h : ∀ o : O, (v = true → o = .nx ρa) → (v = false → o = .rt d ρa) → DB X ρt sts o) (w : Wk ρa ρ1) : (v = true → DB X ρt sts (.nx ρ1)) ∧ (v = false → DB X ρt sts (.rt d ρ1)) :=
  ⟨fun e => db_weak (h _ (fun _ => rfl) (fun z => by rw [e] at z; cases z)) w, fun e => db_rtW (h _ (fun z => by rw [e] at z; cases z) (fun _ => rfl)) w⟩
theorem bools_of {K : PySem.W.Frag} {B : Hp} : ∀ {bs : List Bool} {us : List V}, DpAll K B us (bs.map PyData.bool) → us = bs.map V.bl
  | [], _, h => by cases h; rfl
  | b :: bs, _, h => by
    cases h with
    | cons h t =>
      cases h
      rw [bools_of t]; rfl
theorem de_any {bs : List Bool} (hc : X.calm = true) (h : DLd X ρ e (bs.map .bool) ρ1) (hm : X.mg "any" = none) (hg : Gl X "any" := by rfl) (he : starEach [e] X.env = (false, eval e X.env) :: starEach [] X.env := by rfl) (hpl : (backTo pos (starEach [] X.env)).any (·.1) = false := by rfl) :
    DE X ρ (.Call (.Name "any" p) [e] [] pos) (.d (.bool (bs.any id))) ρ1 := fun F Z B H σ Q k q =>
  ⟨_, pe_callB (cr_any hc) hg hm PyProof.Rows.boot_any (pa_cons pe_s pa_nil he) (by decide) (by decide) he hpl, h F Z B H σ _ k fun a us B1 H1 k1 x1 hs t => by
    have e := bools_of t
    subst e
    exact ⟨a, bs, rfl, hs, q _ B1 H1 k1 x1 (.bl _)⟩⟩
end
/-! ### webs, shortly -/
section
variable {X : Cx} {ρ ρ1 ρ2 : Env'} {tg a b e : Expr} {pos p p0 p1 p2 p3 : Pos} {W : Wb} {k0 k1 k2}
/-- web[0] -/
theorem de_w0 (h : DE X ρ e (.d (wbD W)) ρ1) : DE X ρ (.Subscript e (.Constant (.int 0) k0 p0) pos) (.d (.int W.n)) ρ1 :=
  de_ixT (xs := [.int W.n, .tuple (W.col.map .int), .tuple ((W.arr.map pK).map NestedKey.data)]) (i := 0) rfl h de_int
/-- web[1] -/
theorem de_w1 (h : DE X ρ e (.d (wbD W)) ρ1) : DE X ρ (.Subscript e (.Constant (.int 1) k0 p0) pos) (.d (.tuple (W.col.map .int))) ρ1 :=
  de_ixT (xs := [.int W.n, .tuple (W.col.map .int), .tuple ((W.arr.map pK).map NestedKey.data)]) (i := 1) rfl h de_int
/-- web[2] -/
theorem de_w2 (h : DE X ρ e (.d (wbD W)) ρ1) : DE X ρ (.Subscript e (.Constant (.int 2) k0 p0) pos) (.d (.tuple ((W.arr.map pK).map NestedKey.data))) ρ1 :=
  de_ixT (xs := [.int W.n, .tuple (W.col.map .int), .tuple ((W.arr.map pK).map NestedKey.data)]) (i := 2) rfl h de_int
/-- web[1][x] -/
theorem de_wc {x : Int} (hW : W.Ok) (hx : x ∈ names W.n) (h : DE X ρ e (.d (wbD W)) ρ1) (hb : DE X ρ1 b (.d (.int x)) ρ2) (hs : PlainIx b := by intro _ _; rfl) :
    DE X ρ (.Subscript (.Subscript e (.Constant (.int 1) k0 p0) p1) b pos) (.d (.int (colAt W x))) ρ2 := de_ixT (at_col hW hx) (de_w1 h) hb hs
/-- range(n), as names -/
theorem di_names {n : Nat} (hm : X.mg "range" = none) (hn : n ≤ 100000) (h : DE X ρ e (.d (.int n)) ρ1) (hg : Gl X "range" := by rfl) (hs : starEach [e] X.env = [(false, eval e X.env)] := by rfl) (hs' : starEach [e] X.env = (false, eval e X.env) :: starEach [] X.env := by rfl) :
    DI X ρ tg (.Call (.Name "range" p) [e] [] pos) ((names n).map .int) ρ1 := by
  rw [← names_D]
  exact di_range hm (by omega) (da_cons h da_nil hs') hg hs
/-- [elt for tg in iter], by what stands behind the data -/
theorem dl_mapA {α : Type} {iter elt : Expr} {scope : Scope} (l : List α) (G' g : α → PyData) (own : List (Str × Nat)) (hc : X.calm = true) (hN : X.N.Nodup) (ok : BlkOk X.N X.env.scope scope own) (hi : DI X ρ tg iter (l.map G') ρ1) (hv : ∀ j ∈ own.map (·.2), gS ρ1 j = .un)
    (turn : ∀ x ∈ l, ∃ ρt js ρe, (Blk X scope fun Y => DG Y ρ1 tg (G' x) js ρt) ∧ (Blk X scope fun Y => DE Y ρt elt (.d (g x)) ρe) ∧ (∀ j ∈ js, j ∈ own.map (·.2)) ∧ Wk ρe ρ1) (hz : l.length ≤ sizeLine)
    (hs : ∀ x, foldedSetIterable iter X.env x = pure x := by intro _; rfl) : DL X ρ (.ListComp elt [⟨tg, iter, [], 0⟩] scope pos) (l.map g) ρ1 := by
  have e : (List.range (l.map G').length).filterMap (fun i => l[i]?.bind fun x => some (g x)) = l.map g := by rw [List.length_map]; exact fm_map g l
  rw [← e]
  refine dl_lc hc hN ok hi (fun _ => ρ1) _ (fun i x hx => ?_) (wipeE_wk hv) (fun _ => wipeE_wk hv) (mrg_un rfl hv) (by rw [List.length_map]; exact hz) hs
  rw [List.getElem?_map] at hx
  cases hli : l[i]? with
  | none => rw [hli] at hx; cases hx
  | some y =>
    rw [hli] at hx
    cases hx
    obtain ⟨ρt, js, ρe, h1, h2, h3, h4⟩ := turn y (List.mem_of_getElem? hli)
    exact LcT.map h3 h1 h2 h4
/-- [elt for tg in iter if c], by what stands behind the data -/
theorem dl_filtA {α : Type} {iter elt c : Expr} {scope : Scope} (l : List α) (G' g : α → PyData) (f : α → Bool) (own : List (Str × Nat)) (hc : X.calm = true) (hN : X.N.Nodup) (ok : BlkOk X.N X.env.scope scope own) (hi : DI X ρ tg iter (l.map G') ρ1) (hv : ∀ j ∈ own.map (·.2), gS ρ1 j = .un)
    (turn : ∀ x ∈ l, ∃ ρt js ρa ρe, (Blk X scope fun Y => DG Y ρ1 tg (G' x) js ρt) ∧ (Blk X scope fun Y => DT Y ρt c (f x) ρa) ∧ (f x = true → Blk X scope fun Y => DE Y ρa elt (.d (g x)) ρe) ∧ (∀ j ∈ js, j ∈ own.map (·.2)) ∧ Wk ρa ρ1 ∧ Wk ρe ρ1) (hz : l.length ≤ sizeLine)
    (hs : ∀ x, foldedSetIterable iter X.env x = pure x := by intro _; rfl) : DL X ρ (.ListComp elt [⟨tg, iter, [c], 0⟩] scope pos) ((l.filter f).map g) ρ1 := by
  have e : (List.range (l.map G').length).filterMap (fun i => l[i]?.bind fun x => if f x then some (g x) else none) = (l.filter f).map g := by rw [List.length_map]; exact fm_filt f g l
  rw [← e]
  refine dl_lc hc hN ok hi (fun _ => ρ1) _ (fun i x hx => ?_) (wipeE_wk hv) (fun _ => wipeE_wk hv) (mrg_un rfl hv) (by rw [List.length_map]; exact hz) hs
  rw [List.getElem?_map] at hx
  cases hli : l[i]? with
  | none => rw [hli] at hx; cases hx
  | some y =>
    rw [hli] at hx
    cases hx
    obtain ⟨ρt, js, ρa, ρe, h1, h2, h3, h4, h5, h6⟩ := turn y (List.mem_of_getElem? hli)
    exact LcT.iff h4 h1 h2 h3 (fun _ => h6) (fun _ => h5)
/-- x = [elt for tg in iter], by what stands behind the data -/
theorem ds_setMapA {α : Type} {i : Nat} {y : Str} {py spos : Pos} {s0 : Sl} {iter elt : Expr} {scope : Scope} (l : List α) (G' g : α → PyData) (own : List (Str × Nat)) (hc : X.calm = true) (hN : X.N.Nodup) (ok : BlkOk X.N X.env.scope scope own) (hi : DI X ρ tg iter (l.map G') ρ1) (hv : ∀ j ∈ own.map (·.2), gS ρ1 j = .un)
    (turn : ∀ x ∈ l, ∃ ρt js ρe, (Blk X scope fun Y => DG Y ρ1 tg (G' x) js ρt) ∧ (Blk X scope fun Y => DE Y ρt elt (.d (g x)) ρe) ∧ (∀ j ∈ js, j ∈ own.map (·.2)) ∧ Wk ρe ρ1) (hz : l.length ≤ sizeLine)
    (hsw : swapsWith (.ListComp elt [⟨tg, iter, [], 0⟩] scope pos) (some (.Name y py)) spos.line X.env = pure true := by rfl)
    (hr : ρ1[i]? = some s0 := by rfl) (hy : X.N[i]? = some y := by rfl) (hyl : X.env.scope.names.lookup y = some .local := by rfl) (hs : ∀ x, foldedSetIterable iter X.env x = pure x := by intro _; rfl) :
    DS X ρ (.Assign [.Name y py] (.ListComp elt [⟨tg, iter, [], 0⟩] scope pos) spos) (.nx (ρ1.set i (.o (.lst (l.map g))))) := by
  have e : (List.range (l.map G').length).filterMap (fun i => l[i]?.bind fun x => some (g x)) = l.map g := by rw [List.length_map]; exact fm_map g l
  rw [← e]
  refine ds_setLc hc hN ok hsw hi (fun _ => ρ1) _ (fun i x hx => ?_) (wipeE_wk hv) (fun _ => wipeE_wk hv) (mrg_un rfl hv) (by rw [List.length_map]; exact hz) hr hy hyl hs
  rw [List.getElem?_map] at hx
  cases hli : l[i]? with
  | none => rw [hli] at hx; cases hx
  | some y =>
    rw [hli] at hx
    cases hx
    obtain ⟨ρt, js, ρe, h1, h2, h3, h4⟩ := turn y (List.mem_of_getElem? hli)
    exact LcT.map h3 h1 h2 h4
/-- x = [elt for tg in iter if c], by what stands behind the data -/
theorem ds_setFiltA {α : Type} {i : Nat} {y : Str} {py spos : Pos} {s0 : Sl} {iter elt c : Expr} {scope : Scope} (l : List α) (G' g : α → PyData) (f : α → Bool) (own : List (Str × Nat)) (hc : X.calm = true) (hN : X.N.Nodup) (ok : BlkOk X.N X.env.scope scope own) (hi : DI X ρ tg iter (l.map G') ρ1) (hv : ∀ j ∈ own.map (·.2), gS ρ1 j = .un)
    (turn : ∀ x ∈ l, ∃ ρt js ρa ρe, (Blk X scope fun Y => DG Y ρ1 tg (G' x) js ρt) ∧ (Blk X scope fun Y => DT Y ρt c (f x) ρa) ∧ (f x = true → Blk X scope fun Y => DE Y ρa elt (.d (g x)) ρe) ∧ (∀ j ∈ js, j ∈ own.map (·.2)) ∧ Wk ρa ρ1 ∧ Wk ρe ρ1) (hz : l.length ≤ sizeLine)
    (hsw : swapsWith (.ListComp elt [⟨tg, iter, [c], 0⟩] scope pos) (some (.Name y py)) spos.line X.env = pure true := by rfl)
    (hr : ρ1[i]? = some s0 := by rfl) (hy : X.N[i]? = some y := by rfl) (hyl : X.env.scope.names.lookup y = some .local := by rfl) (hs : ∀ x, foldedSetIterable iter X.env x = pure x := by intro _; rfl) :
    DS X ρ (.Assign [.Name y py] (.ListComp elt [⟨tg, iter, [c], 0⟩] scope pos) spos) (.nx (ρ1.set i (.o (.lst ((l.filter f).map g))))) := by
  have e : (List.range (l.map G').length).filterMap (fun i => l[i]?.bind fun x => if f x then some (g x) else none) = (l.filter f).map g := by rw [List.length_map]; exact fm_filt f g l
  rw [← e]
  refine ds_setLc hc hN ok hsw hi (fun _ => ρ1) _ (fun i x hx => ?_) (wipeE_wk hv) (fun _ => wipeE_wk hv) (mrg_un rfl hv) (by rw [List.length_map]; exact hz) hr hy hyl hs
  rw [List.getElem?_map] at hx
  cases hli : l[i]? with
  | none => rw [hli] at hx; cases hx
  | some y =>
    rw [hli] at hx
    cases hx
    obtain ⟨ρt, js, ρa, ρe, h1, h2, h3, h4, h5, h6⟩ := turn y (List.mem_of_getElem? hli)
    exact LcT.iff h4 h1 h2 h3 (fun _ => h6) (fun _ => h5)
end
end G

set_option Elab.async false
set_option linter.all false
set_option maxRecDepth 100000
set_option maxHeartbeats 4000000
/- names above a name -/
namespace G
open PySem L2 PySem.Spec PyProof.Rows
def upN (n : Nat) (x : Int) : List Int := (List.range ((n : Int) - (x + 1)).toNat).map fun (k : Nat) => x + 1 + (k : Int)
theorem upN_len (n : Nat) (x : Int) : (upN n x).length ≤ ((n : Int) - (x + 1)).toNat := by
  unfold upN
  rw [List.length_map, List.length_range]; exact Nat.le_refl _
theorem upN_in {n : Nat} {x y : Int} (x0 : 0 ≤ x) (h : y ∈ upN n x) : x < y ∧ y < (n : Int) := by
  unfold upN at h
  obtain ⟨k, hk, rfl⟩ := List.mem_map.mp h
  have := List.mem_range.mp hk
  omega
theorem upN_D (n : Nat) {x : Int} (x0 : 0 ≤ x) : rangeD (x + 1) ((n : Int) - (x + 1)).toNat = (upN n x).map .int := by
  unfold rangeD upN
  rw [List.map_map]; rfl
end G

set_option Elab.async false
set_option linter.all false
set_option maxRecDepth 100000
set_option maxHeartbeats 4000000
namespace G
open PySem L2 PySem.Spec PyProof.Rows
theorem at_ints {l : List Int} {x : Int} (h1 : 0 ≤ x) (h2 : x < l.length) : atI (l.map PyData.int) x = some (.int (l.getD x.toNat 0)) := by
  have hi : x.toNat < l.length := by omega
  unfold atI
  have : ixN (l.map PyData.int).length x = some x.toNat := by
    unfold ixN
    rw [List.length_map]
    simp [h1, h2]
  rw [this]
  show (l.map PyData.int)[x.toNat]? = _
  rw [List.getElem?_map, List.getD_eq_getElem?_getD, List.getElem?_eq_getElem hi]
  rfl
theorem ix_pos {n : Nat} {x : Int} (h1 : 0 ≤ x) (h2 : x < n) : ixN n x = some x.toNat := by
  unfold ixN
  simp [h1, h2]
end G

set_option Elab.async false
set_option linter.all false
set_option maxRecDepth 100000
set_option maxHeartbeats 4000000
/- lists glued, whatever they are; a list of our own, times a number -/
namespace G
open PySem L2 PySem.Spec PyProof.Rows PySem.P PySem.SeqAt
section
variable {X : Cx}
def rCatS (K : PySem.W.Frag) : R2 := fun x y H Q => ∃ l b xs zs, x = .ref l ∧ y = .ref b ∧ SqL K H l xs ∧ SqL K H b zs ∧ xs.length + zs.length ≤ sizeLine ∧ ∀ p, H p = none → Q (.ref p) (upd H p (.lst (xs ++ zs)))
theorem op_catS : OpR X (binaryOp .Add) (rCatS X.K) := by
  intro pins s σ H x y v u Q I rx ry h
  obtain ⟨l, b, xs, zs, rfl, rfl, hH, hB, hz, q⟩ := h
  cases rx
  cases ry
  obtain ⟨its, r, ⟨⟨cls, dd, data, sl⟩, n, ho, hc, hdd, hd⟩, hl⟩ := I.list hH
  obtain ⟨its2, r2, ⟨⟨cls2, dd2, data2, sl2⟩, n2, ho2, hc2, hdd2, hd2⟩, hl2⟩ := I.list hB
  have l1 := r.length
  have l2 := r2.length
  simp only at hc hdd hd hc2 hdd2 hd2
  subst hc hdd hd hc2 hdd2 hd2
  have ea : its.toArray ++ its2.toArray = (its ++ its2).toArray := by simp
  refine concat_meets ⟨_, ho, rfl⟩ ⟨_, ho2, rfl⟩ noFill_list_add seq_list_add PySem.F.slot_list_add PySem.F.entry_list_add (PySem.F.args_list_add_2 _ _) (list_addW l b its.toArray its2.toArray n n2 none none sl sl2 (by simp; omega)) ⟨ho, ho2, ?_⟩
  rw [ea]
  exact ⟨.ref _, _, I.lnew (t' := s.toks) (r.append r2) (by rw [List.length_append]; omega), rfl, q _ I.fresh⟩
end
section
variable {X : Cx} {ρ ρ1 ρ2 : Env'} {a b : Expr} {pos : Pos} {xs ys : List PyData} {r1 r2 : R}
theorem dl_catS (hz : xs.length + ys.length ≤ sizeLine) (hq1 : RL ρ2 r1 xs) (hq2 : RL ρ2 r2 ys) (ha : DE X ρ a r1 ρ1) (hb : DE X ρ1 b r2 ρ2) : DL X ρ (.BinOp a .Add b pos) (xs ++ ys) ρ2 := fun F Z B H σ Q k q =>
  ⟨_, pe_op op_catS pe_s pe_s, DE.two ha hb k fun v1 v2 B2 H2 k2 x w1 w2 => by
    obtain ⟨p1, vs, e1, s1, t1⟩ := hq1.at k2 w1
    obtain ⟨p2, us, e2, s2, t2⟩ := hq2.at k2 w2
    have l1 := DpAll.length t1
    have l2 := DpAll.length t2
    exact ⟨p1, p2, vs, us, e1, e2, s1, s2, by rw [l1, l2]; exact hz, fun l hl => q l _ B2 _ (k2.loose hl _) x (k2.laid hl _) upd_same (G.DpAll.append t1 t2)⟩⟩
end
end G

set_option Elab.async false
set_option linter.all false
set_option maxRecDepth 100000
set_option maxHeartbeats 4000000
/- pairs sorted: plain -/
namespace G
open PySem L2 PySem.Spec PyProof.Rows
def pD (l : List (Int × Int)) : List PyData := (l.map pK).map NestedKey.data
theorem pD_app (l m : List (Int × Int)) : pD (l ++ m) = pD l ++ pD m := by unfold pD; rw [List.map_append, List.map_append]
theorem pD_len (l : List (Int × Int)) : (pD l).length = l.length := by unfold pD; rw [List.length_map, List.length_map]
def srtP (l : List (Int × Int)) : List (Int × Int) := l.mergeSort fun p q => PySem.W.dataLe false id (pK p).data (pK q).data
theorem sort_pD (l : List (Int × Int)) : sortD (pD l) = pD (srtP l) := by
  unfold sortD pD srtP
  rw [List.map_map, List.map_map]
  exact (PySem.W.sort_maps (r := fun p q => PySem.W.dataLe false id (pK p).data (pK q).data) (s := PySem.W.dataLe false id) (fun p => (pK p).data) (l := l) fun _ _ _ _ => rfl).symm
theorem srtP_mem {l : List (Int × Int)} {p : Int × Int} : p ∈ srtP l ↔ p ∈ l := (List.mergeSort_perm _ _).mem_iff
theorem srtP_len (l : List (Int × Int)) : (srtP l).length = l.length := (List.mergeSort_perm _ _).length_eq
end G

set_option Elab.async false
set_option linter.all false
set_option maxRecDepth 100000
set_option maxHeartbeats 4000000
/- webs by other names: rules -/
namespace G
open PySem L2 PySem.Spec PyProof.Rows
section
variable {X : Cx} {ρ ρ1 ρ2 : Env'} {tg a b e : Expr} {pos p p0 p1 p2 p3 : Pos} {W : Wb} {k0 k1 k2} {r : R}
/-- tuple(sorted(e)), e a list of pairs -/
theorem de_sortP {l : List (Int × Int)} (hu : X.A.units + 100 < cLine) (hq : RL ρ1 r (pD l)) (mt : X.mg "tuple" = none) (ms : X.mg "sorted" = none) (h : DE X ρ e r ρ1) (hg : Gl X "tuple" := by rfl) (hg2 : Gl X "sorted" := by rfl)
    (he : starEach [e] X.env = (false, eval e X.env) :: starEach [] X.env := by rfl) (hp : (backTo p3 (starEach [] X.env)).any (·.1) = false := by rfl)
    (he2 : starEach [.Call (.Name "sorted" p2) [e] [] p3] X.env = (false, eval (.Call (.Name "sorted" p2) [e] [] p3) X.env) :: starEach [] X.env := by rfl) (hp2 : (backTo pos (starEach [] X.env)).any (·.1) = false := by rfl) :
    DE X ρ (.Call (.Name "tuple" p) [.Call (.Name "sorted" p2) [e] [] p3] [] pos) (.d (.tuple (pD (srtP l)))) ρ1 := by
  have kin := kin_pairs l
  refine de_tupL .d mt (DL.de (dl_is (sort_pD l) (dl_sorted hu (fun x hx y hy => ?_) (.inl fun d hd => ?_) (fun d hd => ?_) hq ms h hg2 he hp))) hg he2 hp2
  · obtain ⟨k, hk, rfl⟩ := List.mem_map.mp hx
    obtain ⟨k', hk', rfl⟩ := List.mem_map.mp hy
    exact kin.al k hk k' hk'
  · obtain ⟨k, hk, rfl⟩ := List.mem_map.mp hd
    obtain ⟨p, _, rfl⟩ := List.mem_map.mp hk
    exact ⟨_, _, rfl⟩
  · obtain ⟨k, hk, rfl⟩ := List.mem_map.mp hd
    rw [nk_depth]
    exact Nat.le_trans (kin.dep k hk) (by decide)
def prD (q : Int × Int) : PyData := .tuple [.int q.1, .int q.2]
theorem pD_eq (l : List (Int × Int)) : pD l = l.map prD := by
  unfold pD
  rw [List.map_map]
  exact List.map_congr_left fun _ _ => rfl
/-- a web's arrows, one by one -/
theorem di_arr (h : DE X ρ e (.d (wbD W)) ρ1) : DI X ρ tg (.Subscript e (.Constant (.int 2) k0 p0) pos) (W.arr.map prD) ρ1 := by
  rw [← pD_eq]
  exact di_tup (de_w2 h)
end
end G

set_option Elab.async false
set_option linter.all false
set_option maxRecDepth 100000
set_option maxHeartbeats 4000000
/- webs of ties, Paley webs, wishes: plain -/
namespace G
open PySem L2 PySem.Spec PyProof.Rows
/-! ### webs of ties -/
def swpT (q : Int × Int) : Int × Int := (q.2, q.1)
def tieL (l : List (Int × Int)) : List (Int × Int) := l ++ l.map swpT
def both2 (l : List (Int × Int)) : List (Int × Int) := l.flatMap fun q => [q, swpT q]
def tiW (n : Nat) (l : List (Int × Int)) : Wb := ⟨n, List.replicate n 0, srtP (tieL l)⟩
theorem srtP_permT {l m : List (Int × Int)} (h : l.Perm m) : srtP l = srtP m := by
  refine List.Perm.eq_of_pairwise (le := fun p q => PySem.W.dataLe false id (pK p).data (pK q).data = true) (fun a b _ _ l1 l2 => pK_inj (dle_antisymm rfl l1 l2)) ?_ ?_ (((List.mergeSort_perm _ _).trans h).trans (List.mergeSort_perm _ _).symm)
  · exact List.pairwise_mergeSort (le := fun a b : Int × Int => PySem.W.dataLe false id (pK a).data (pK b).data) (fun a b c => dle_trans (pK a).data (pK b).data (pK c).data) (fun a b => dle_total (pK a).data (pK b).data) l
  · exact List.pairwise_mergeSort (le := fun a b : Int × Int => PySem.W.dataLe false id (pK a).data (pK b).data) (fun a b c => dle_trans (pK a).data (pK b).data (pK c).data) (fun a b => dle_total (pK a).data (pK b).data) m
theorem both_perm : ∀ l : List (Int × Int), (both2 l).Perm (tieL l)
  | [] => .nil
  | q :: l => by
    have ih := both_perm l
    show (q :: swpT q :: both2 l).Perm (q :: (l ++ swpT q :: l.map swpT))
    exact ((ih.cons (swpT q)).trans List.perm_middle.symm).cons q
theorem srt_both (l : List (Int × Int)) : srtP (both2 l) = srtP (tieL l) := srtP_permT (both_perm l)
theorem both_take {l : List (Int × Int)} {k : Nat} {q : Int × Int} (h : l[k]? = some q) : both2 (l.take (k + 1)) = both2 (l.take k) ++ [q, swpT q] := by
  unfold both2
  rw [List.take_add_one, h, List.flatMap_append]; rfl
theorem both_len (l : List (Int × Int)) : (both2 l).length = 2 * l.length := by
  rw [(both_perm l).length_eq]
  unfold tieL
  rw [List.length_append, List.length_map]; omega
theorem tie_mem {l : List (Int × Int)} {a b : Int} : (a, b) ∈ srtP (tieL l) ↔ (a, b) ∈ l ∨ (b, a) ∈ l := by
  rw [srtP_mem]
  unfold tieL
  rw [List.mem_append, List.mem_map]
  refine or_congr Iff.rfl ⟨?_, fun h => ⟨_, h, rfl⟩⟩
  rintro ⟨⟨x, y⟩, hq, e⟩
  injection e with e1 e2
  subst e1 e2
  exact hq
/-! ### Paley webs -/
def sqL (q : Nat) : List Int := (upN q 0).map fun x => x * x % q
def sqB (q : Nat) (x : Int) : Bool := decide (x % q ∈ sqL q)
def palT (q : Nat) : List (Int × Int) := (names q).flatMap fun a => ((upN q a).filter fun b => sqB q (b - a)).map fun b => (a, b)
def palW (q : Nat) : Wb := tiW q (palT q)
def adjP (q : Nat) (a b : Int) : Bool := sqB q (b - a)
def palQ (q : Nat) : Prop := q = 5 ∨ q = 13 ∨ q = 17 ∨ q = 29
theorem up_iff {n : Nat} {x y : Int} (x0 : 0 ≤ x) : y ∈ upN n x ↔ x < y ∧ y < (n : Int) := by
  refine ⟨upN_in x0, fun h => ?_⟩
  unfold upN
  exact List.mem_map.mpr ⟨(y - x - 1).toNat, List.mem_range.mpr (by omega), by omega⟩
theorem palT_mem {q : Nat} {a b : Int} : (a, b) ∈ palT q ↔ a ∈ names q ∧ a < b ∧ b < (q : Int) ∧ adjP q a b = true := by
  unfold palT
  rw [List.mem_flatMap]
  constructor
  · rintro ⟨x, hx, h⟩
    obtain ⟨y, hy, e⟩ := List.mem_map.mp h
    injection e with e1 e2
    subst e1 e2
    obtain ⟨h1, h2⟩ := List.mem_filter.mp hy
    obtain ⟨u1, u2⟩ := upN_in (mem_names.mp hx).1 h1
    exact ⟨hx, u1, u2, h2⟩
  · rintro ⟨h1, h2, h3, h4⟩
    exact ⟨a, h1, List.mem_map.mpr ⟨b, List.mem_filter.mpr ⟨(up_iff (mem_names.mp h1).1).mpr ⟨h2, h3⟩, h4⟩, rfl⟩⟩
theorem sq_neg {q : Nat} (h : palQ q) : ∀ x ∈ names q, sqB q (-x) = sqB q x := by
  rcases h with rfl | rfl | rfl | rfl <;> decide +kernel
theorem sq_zero {q : Nat} (h : palQ q) : sqB q 0 = false := by
  rcases h with rfl | rfl | rfl | rfl <;> decide +kernel
theorem sq_mod (q : Nat) (x : Int) : sqB q (x % q) = sqB q x := by
  unfold sqB
  rw [Int.emod_emod_of_dvd _ (Int.dvd_refl _)]
theorem sq_mul {q : Nat} (h : palQ q) : ∀ x ∈ names q, ∀ y ∈ upN q 0, sqB q x = true → sqB q (x * y) = sqB q y := by
  rcases h with rfl | rfl | rfl | rfl <;> decide +kernel
theorem pal_pos {q : Nat} (h : palQ q) : 5 ≤ q ∧ q ≤ 29 := by rcases h with rfl | rfl | rfl | rfl <;> decide
theorem sq_congr {q : Nat} {x y : Int} (h : x % q = y % q) : sqB q x = sqB q y := by
  unfold sqB
  rw [h]
theorem neg_mod {q : Nat} (h : palQ q) (x y : Int) : (-((x - y) % (q : Int))) % (q : Int) = (y - x) % (q : Int) := by
  rcases h with rfl | rfl | rfl | rfl <;> omega
theorem adj_symm {q : Nat} (h : palQ q) {a b : Int} : adjP q a b = adjP q b a := by
  unfold adjP
  have p := pal_pos h
  have m : (b - a) % (q : Int) ∈ names q := mem_names.mpr ⟨Int.emod_nonneg _ (by omega), Int.emod_lt_of_pos _ (by omega)⟩
  rw [← sq_mod q (b - a), ← sq_neg h _ m]
  exact sq_congr (neg_mod h b a)
theorem pal_adj {q : Nat} (h : palQ q) {a b : Int} (ha : a ∈ names q) (hb : b ∈ names q) : (a, b) ∈ (palW q).arr ↔ adjP q a b = true := by
  show (a, b) ∈ srtP (tieL (palT q)) ↔ _
  rw [tie_mem, palT_mem, palT_mem]
  have h1 := mem_names.mp ha
  have h2 := mem_names.mp hb
  constructor
  · rintro (⟨_, _, _, h⟩ | ⟨_, _, _, h'⟩)
    · exact h
    · rw [adj_symm h]; exact h'
  · intro h'
    by_cases l : a < b
    · exact .inl ⟨ha, l, h2.2, h'⟩
    · by_cases l' : b < a
      · exact .inr ⟨hb, l', h1.2, by rw [adj_symm h]; exact h'⟩
      · have : a = b := by omega
        subst this
        unfold adjP at h'
        rw [Int.sub_self, sq_zero h] at h'; cases h'
theorem pal_deg {q : Nat} (h : palQ q) : ∀ a ∈ names q, ((names q).filter (adjP q a)).length = (q - 1) / 2 := by
  rcases h with rfl | rfl | rfl | rfl <;> decide +kernel
theorem pal_two {q : Nat} (h : palQ q) : ∀ a ∈ names q, ∀ b ∈ names q, a ≠ b → ((names q).filter fun x => adjP q a x && adjP q b x).length = (if adjP q a b = true then (q - 5) / 4 else (q - 1) / 4) ∧ ((names q).filter fun x => decide (x ≠ b) && (adjP q a x && !adjP q b x)).length = (q - 1) / 4 := by
  rcases h with rfl | rfl | rfl | rfl <;> decide +kernel
theorem add_mod {q : Nat} (h : palQ q) (a b c : Int) : ((b + c) % (q : Int) - (a + c) % (q : Int)) % (q : Int) = (b - a) % (q : Int) := by
  rcases h with rfl | rfl | rfl | rfl <;> omega
theorem adj_add {q : Nat} (h : palQ q) (a b c : Int) : adjP q ((a + c) % q) ((b + c) % q) = adjP q a b := sq_congr (add_mod h a b c)
theorem adj_mul {q : Nat} (h : palQ q) {a b c : Int} (hc : c ∈ upN q 0) (t : adjP q a b = true) : adjP q ((a * c) % q) ((b * c) % q) = sqB q c := by
  have p := pal_pos h
  have m : (b - a) % (q : Int) ∈ names q := mem_names.mpr ⟨Int.emod_nonneg _ (by omega), Int.emod_lt_of_pos _ (by omega)⟩
  have t' : sqB q ((b - a) % (q : Int)) = true := (sq_mod q (b - a)).trans t
  rw [← sq_mul h _ m c hc t']
  refine sq_congr ?_
  rw [← Int.sub_emod, ← Int.sub_mul, Int.mul_emod (b - a) c, Int.mul_emod ((b - a) % (q : Int)) c, Int.emod_emod_of_dvd _ (Int.dvd_refl _)]
/-! ### wishes -/
def metF (f : Int → Int → Bool) (row pat : List Int) (x : Int) : Bool := !(decide (x ∈ row)) && (row.zip pat).all fun p => f x p.1 == decide (p.2 = 1)
def meetF (n : Nat) (f : Int → Int → Bool) (row pat : List Int) : List Int := (names n).filter (metF f row pat)
def rowsN (n : Nat) : Nat → List (List Int)
  | 0 => [[]]
  | k + 1 => (rowsN n k).flatMap fun row => ((names n).filter fun x => decide (x ∉ row)).map fun x => row ++ [x]
def patsN : Nat → List (List Int)
  | 0 => [[]]
  | k + 1 => (patsN k).flatMap fun p => [p ++ [0], p ++ [1]]
def wishD (row pat : List Int) : PyData := .tuple [.tuple (row.map .int), .tuple (pat.map .int)]
def missF (n : Nat) (f : Int → Int → Bool) (k : Nat) : Option PyData := (List.range k).findSome? fun m => (rowsN n m).findSome? fun r => (patsN m).findSome? fun p => if (meetF n f r p).isEmpty = true then some (wishD r p) else none
def adjW (W : Wb) (a b : Int) : Bool := decide ((a, b) ∈ W.arr)
theorem rowsN_in {n : Nat} : ∀ {k : Nat} {r : List Int}, r ∈ rowsN n k → r.length = k ∧ r.Nodup ∧ ∀ x ∈ r, x ∈ names n
  | 0, r, h => by
    rw [List.mem_singleton.mp h]
    exact ⟨rfl, List.nodup_nil, fun x hx => nomatch hx⟩
  | k + 1, r, h => by
    obtain ⟨s, hs, h⟩ := List.mem_flatMap.mp h
    obtain ⟨x, hx, rfl⟩ := List.mem_map.mp h
    obtain ⟨h1, h2, h3⟩ := rowsN_in hs
    obtain ⟨m1, m2⟩ := List.mem_filter.mp hx
    have m2 := of_decide_eq_true m2
    refine ⟨by rw [List.length_append, h1]; rfl, ?_, fun y hy => ?_⟩
    · rw [List.nodup_append]
      refine ⟨h2, by simp, fun a ha b hb e => ?_⟩
      rw [List.mem_singleton.mp hb] at e
      exact m2 (e ▸ ha)
    · rcases List.mem_append.mp hy with hy | hy
      · exact h3 y hy
      · rw [List.mem_singleton.mp hy]; exact m1
theorem patsN_len : ∀ {k : Nat} {p : List Int}, p ∈ patsN k → p.length = k
  | 0, p, h => by rw [List.mem_singleton.mp h]; rfl
  | k + 1, p, h => by
    obtain ⟨s, hs, h⟩ := List.mem_flatMap.mp h
    have := patsN_len hs
    simp only [List.mem_cons, List.not_mem_nil, or_false] at h
    rcases h with rfl | rfl <;> rw [List.length_append, this] <;> rfl
theorem findSome_congr {α β : Type} {f g : α → Option β} : ∀ {l : List α}, (∀ x ∈ l, f x = g x) → l.findSome? f = l.findSome? g
  | [], _ => rfl
  | x :: l, h => by
    rw [List.findSome?_cons, List.findSome?_cons, h x List.mem_cons_self, findSome_congr fun y hy => h y (List.mem_cons_of_mem _ hy)]
theorem all_congrT {α : Type} {l : List α} {f g : α → Bool} (h : ∀ x ∈ l, f x = g x) : l.all f = l.all g := by
  rw [Bool.eq_iff_iff, List.all_eq_true, List.all_eq_true]
  exact ⟨fun q x hx => by rw [← h x hx]; exact q x hx, fun q x hx => by rw [h x hx]; exact q x hx⟩
theorem meet_congr {n : Nat} {f g : Int → Int → Bool} (h : ∀ a ∈ names n, ∀ b ∈ names n, f a b = g a b) {r p : List Int} (hr : ∀ x ∈ r, x ∈ names n) : meetF n f r p = meetF n g r p := by
  unfold meetF
  refine List.filter_congr fun x hx => ?_
  unfold metF
  congr 1
  refine all_congrT fun q hq => ?_
  rw [h x hx q.1 (hr _ (List.of_mem_zip hq).1)]
theorem miss_congr {n : Nat} {f g : Int → Int → Bool} (h : ∀ a ∈ names n, ∀ b ∈ names n, f a b = g a b) (k : Nat) : missF n f k = missF n g k := by
  unfold missF
  refine findSome_congr fun m _ => findSome_congr fun r hr => findSome_congr fun p _ => ?_
  rw [meet_congr h (rowsN_in hr).2.2]
theorem pal_miss2 {q : Nat} (h : palQ q) (l : q ≤ 17) : (missF q (adjP q) 2).isNone = true := by
  rcases h with rfl | rfl | rfl | rfl
  · decide +kernel
  · decide +kernel
  · decide +kernel
  · omega
theorem pal_miss3 {q : Nat} (h : palQ q) (l : q ≤ 17) : (missF q (adjP q) 3).isNone = decide (5 < q) := by
  rcases h with rfl | rfl | rfl | rfl
  · decide +kernel
  · decide +kernel
  · decide +kernel
  · omega
end G

set_option Elab.async false
set_option linter.all false
set_option maxRecDepth 100000
set_option maxHeartbeats 4000000
/- zip of any two of lists and tuples: at the level of the model -/
namespace G
open PySem PySem.Spec PyProof.Rows
/-- it stands at place k of the list or tuple l -/
def SqI (t : Bool) (h : Heap) (it l : Addr) (k : Nat) (xs : Array Value) : Prop := match t with
  | true => h.IsListIter it l k ∧ h.IsList l xs
  | false => h.IsTupleIter it l k ∧ h.IsTuple l xs
theorem SqI.keep {t : Bool} {h h' : Heap} {it l : Addr} {k : Nat} {xs : Array Value} (x : SqI t h it l k xs) (e : ∀ c o, (c = it ∨ c = l) → h.get? c = some o → h'.get? c = some o) : SqI t h' it l k xs := by
  cases t
  · exact ⟨x.1.at fun o => e it o (.inl rfl), x.2.at fun o => e l o (.inr rfl)⟩
  · exact ⟨x.1.at fun o => e it o (.inl rfl), x.2.at fun o => e l o (.inr rfl)⟩
theorem SqI.but {t : Bool} {h h' : Heap} {it l b : Addr} {k : Nat} {xs : Array Value} (x : SqI t h it l k xs) (sb : Heap.ExtBut b h h') (n1 : it ≠ b) (n2 : l ≠ b) : SqI t h' it l k xs :=
  x.keep fun c o q e => sb c o (by rcases q with rfl | rfl <;> assumption) e
theorem SqI.obj {t : Bool} {h : Heap} {it l : Addr} {k : Nat} {xs : Array Value} (x : SqI t h it l k xs) : (∃ o, h.get? it = some o ∧ ∀ v, o.data ≠ .cell v) ∧ ∃ o, h.get? l = some o := by
  cases t
  · obtain ⟨⟨o, e, c, d⟩, ⟨o2, e2, _⟩⟩ := x
    exact ⟨⟨o, e, fun v z => by rw [d] at z; cases z⟩, o2, e2⟩
  · obtain ⟨⟨o, e, c, d⟩, ⟨o2, e2, _⟩⟩ := x
    exact ⟨⟨o, e, fun v z => by rw [d] at z; cases z⟩, o2, e2⟩
section
variable {prog : Program} {w : World} {A : Around} {E : Value → Shared → Prop} {s : Shared} {t t1 t2 : Bool}
theorem sq_next {it l : Addr} {k : Nat} {xs : Array Value} {x : Value} {Q : Value → Shared → Prop} (q : SqI t s.heap it l k xs) (n : l ≠ it) (hx : xs[k]? = some x)
    (hQ : ∀ h', SqI t h' it l (k + 1) xs → Heap.SameBut it s.heap h' → Q x { s with heap := h' }) : wpAny (model prog w) A (Builtin.SmallTypes.nextOf (.ref it)) Q E s := by
  cases t
  · exact RZ.nextOf_tuple_item q.1 q.2 hx fun h' a' sb => hQ h' ⟨a', q.2.extBut sb.extBut n⟩ sb
  · exact wpAny_nextOf_list_item q.1 q.2 hx fun h' a' sb => hQ h' ⟨a', q.2.extBut sb.extBut n⟩ sb
theorem sq_last {it l : Addr} {k : Nat} {xs : Array Value} {Q : Value → Shared → Prop} (hh : A.handled = none) (q : SqI t s.heap it l k xs) (hx : xs[k]? = none)
    (hE : ∀ h' e, Heap.ExtBut it s.heap h' → (∃ o, h'.get? e = some o ∧ o.cls = .type "StopIteration") → E (.ref e) { s with heap := h' }) : wpAny (model prog w) A (Builtin.SmallTypes.nextOf (.ref it)) Q E s := by
  cases t
  · exact RZ.nextOf_tuple_end hh q.1 q.2 hx hE
  · exact wpAny_nextOf_list_end hh q.1 q.2 hx hE
variable {z TI TO T i1 i2 l1 l2 : Addr} {f : Bool} {oT : Obj} {k1 k2 : Nat} {xs ys : Array Value} {x y a b : Value}
/-- the next pair, no pair being out -/
theorem zq_item {Q : Value → Shared → Prop} (D : ZipApart z TI TO i1 i2 l1 l2) (qz : IsZip s.heap z TI TO .none) (qI : IsPair s.heap TI (.ref i1) (.ref i2)) (qO : IsPair s.heap TO a b) (q1 : SqI t1 s.heap i1 l1 k1 xs) (q2 : SqI t2 s.heap i2 l2 k2 ys) (hx : xs[k1]? = some x) (hy : ys[k2]? = some y)
    (hQ : ∀ h', IsZip h' z TI TO (rawInt s.heap.objs.size) → IsPair h' TO x y → SqI t1 h' i1 l1 (k1 + 1) xs → SqI t2 h' i2 l2 (k2 + 1) ys → IsPair h' s.heap.objs.size x y → h'.objs.size = s.heap.objs.size + 1 → (∀ c o, c ≠ z → c ≠ TO → c ≠ i1 → c ≠ i2 → s.heap.get? c = some o → h'.get? c = some o) → Q (.ref s.heap.objs.size) { s with heap := h' }) :
    wpAny (model prog w) A (Builtin.«zip.__next__» ⟨[.ref z], []⟩) (fun fin s' => ∃ v, fin = .done (.ret v) ∧ Q v s') E s := by
  have n1 := D.l1i1
  have n2 := D.l2i2
  show wpAny _ _ (field (.ref z) 2 >>= _) _ _ _; refine wpAny_bind (wpAny_field qz rfl (x := .bool false) rfl ?_)
  show wpAny _ _ (field (.ref z) 3 >>= _) _ _ _; refine wpAny_bind (wpAny_field qz rfl (x := .ref TI) rfl ?_)
  refine wpAny_bind (wpAny_seqItems qI rfl ?_)
  show wpAny _ _ (Builtin.SmallTypes.ownedTupleIsFree (.ref z) >>= _) _ _ _; refine wpAny_bind ?_
  unfold Builtin.SmallTypes.ownedTupleIsFree
  refine wpAny_bind (wpAny_field qz rfl (x := .none) rfl (wpAny_pure ?_))
  simp only [if_true]
  refine wpAny_bind (wpAny_rule ?_); refine wpAny_bind (wpAny_field qz rfl (x := .ref TO) rfl ?_)
  refine wpAny_bind (wpAny_setField_rec qz (by simp) fun g1 z1 b1 => ?_)
  replace z1 : IsZip g1 z TI TO .ellipsis := z1
  refine wpAny_bind ?_; simp only [List.zipIdx_cons, List.zipIdx_nil, List.forIn_cons, List.forIn_nil]
  refine wpAny_bind (wpAny_bind (wpAny_onRaise ?_)); show wpAny _ _ (Builtin.SmallTypes.nextOf (.ref i1) >>= _) _ _ _
  refine wpAny_bind (sq_next (q1.but b1.extBut D.i1z D.l1z) n1 hx fun g2 r1 b2 => wpAny_pure ?_)
  have o2 : IsPair g2 TO a b := b2.extBut _ _ D.TOi1 (b1.extBut _ _ D.TOz qO)
  refine wpAny_bind (wpAny_seqItems o2 rfl ?_); refine wpAny_bind (wpAny_updateSeq_pair o2 fun g3 o3 b3 => ?_)
  replace o3 : IsPair g3 TO x b := o3
  refine wpAny_bind (wpAny_letGo (wpAny_pure ?_))
  refine wpAny_bind (wpAny_bind (wpAny_onRaise ?_)); show wpAny _ _ (Builtin.SmallTypes.nextOf (.ref i2) >>= _) _ _ _
  refine wpAny_bind (sq_next (((q2.but b1.extBut D.i2z D.l2z).but b2.extBut D.i12.symm D.l2i1).but b3.extBut D.TOi2.symm D.l2TO) n2 hy fun g4 r2 b4 => wpAny_pure ?_)
  have o4 : IsPair g4 TO x b := b4.extBut _ _ D.TOi2 o3
  refine wpAny_bind (wpAny_seqItems o4 rfl ?_); refine wpAny_bind (wpAny_updateSeq_pair o4 fun g5 o5 b5 => ?_)
  replace o5 : IsPair g5 TO x y := o5
  refine wpAny_bind (wpAny_letGo (wpAny_pure (wpAny_pure ?_))); refine wpAny_bind (wpAny_seqItems o5 rfl ?_); refine wpAny_bind (wpAny_newTuple ?_)
  have sz : g5.objs.size = s.heap.objs.size := by rw [b5.1, b4.1, b3.1, b2.1, b1.1]
  have z5 : IsZip g5 z TI TO .ellipsis := b5.extBut _ _ D.TOz.symm (b4.extBut _ _ D.i2z.symm (b3.extBut _ _ D.TOz.symm (b2.extBut _ _ D.i1z.symm z1)))
  have k5 : ∀ c o, c ≠ z → c ≠ TO → c ≠ i1 → c ≠ i2 → s.heap.get? c = some o → g5.get? c = some o := fun c o c1 c2 c3 c4 e => b5.extBut _ _ c2 (b4.extBut _ _ c4 (b3.extBut _ _ c2 (b2.extBut _ _ c3 (b1.extBut _ _ c1 e))))
  have p1 : SqI t1 g5 i1 l1 (k1 + 1) xs := ((r1.but b3.extBut D.TOi1.symm D.l1TO).but b4.extBut D.i12 D.l1i2).but b5.extBut D.TOi1.symm D.l1TO
  have p2 : SqI t2 g5 i2 l2 (k2 + 1) ys := r2.but b5.extBut D.TOi2.symm D.l2TO
  have zlt : z < g5.objs.size := Heap.lt_size z5
  show wpAny _ _ (Builtin.SmallTypes.ownedTupleHandOut (.ref z) (.ref g5.objs.size) >>= _) _ _ _; refine wpAny_bind ?_
  unfold Builtin.SmallTypes.ownedTupleHandOut
  have z6 : IsZip (g5.push { cls := .type "tuple", data := .seq #[x, y] }) z TI TO .ellipsis := Heap.get?_push_of_some _ z5
  refine wpAny_bind (wpAny_setField_rec z6 (by simp) fun g7 z7 b7 => ?_)
  replace z7 : IsZip g7 z TI TO (rawInt g5.objs.size) := z7
  refine wpAny_setField_rec z7 (by simp) fun g8 z8 b8 => ?_
  replace z8 : IsZip g8 z TI TO (rawInt g5.objs.size) := z8
  have up : ∀ c o, c ≠ z → g5.get? c = some o → g8.get? c = some o := fun c o c1 e => b8.extBut _ _ c1 (b7.extBut _ _ c1 (Heap.get?_push_of_some _ e))
  have t8 : IsPair g8 g5.objs.size x y := b8.extBut _ _ (Nat.ne_of_gt zlt) (b7.extBut _ _ (Nat.ne_of_gt zlt) (Heap.get?_push_size _ rfl))
  have s8 : g8.objs.size = g5.objs.size + 1 := by rw [b8.1, b7.1, Heap.size_push]
  rw [sz] at z8 t8 s8
  refine wpAny_pure ⟨_, rfl, ?_⟩
  show Q (.ref g5.objs.size) _
  rw [sz]
  exact hQ g8 z8 (up _ _ D.TOz o5) (p1.keep fun c o q => up c o (by rcases q with rfl | rfl; exact D.i1z; exact D.l1z)) (p2.keep fun c o q => up c o (by rcases q with rfl | rfl; exact D.i2z; exact D.l2z)) t8 s8 fun c o c1 c2 c3 c4 e => up c o c1 (k5 c o c1 c2 c3 c4 e)
theorem zq_end {Q : Fin → Shared → Prop} (hh : A.handled = none) (D : ZipApart z TI TO i1 i2 l1 l2) (qz : IsZip s.heap z TI TO .none) (qI : IsPair s.heap TI (.ref i1) (.ref i2)) (qO : IsPair s.heap TO a b) (q1 : SqI t1 s.heap i1 l1 k1 xs) (q2 : SqI t2 s.heap i2 l2 k2 ys) (hend : xs[k1]? = none ∨ ys[k2]? = none)
    (hE : ∀ h' e, (∀ c o, c ≠ z → c ≠ TO → c ≠ i1 → c ≠ i2 → s.heap.get? c = some o → h'.get? c = some o) → (∃ o, h'.get? e = some o ∧ o.cls = .type "StopIteration") → E (.ref e) { s with heap := h' }) : wpAny (model prog w) A (Builtin.«zip.__next__» ⟨[.ref z], []⟩) Q E s := by
  have n1 := D.l1i1
  have n2 := D.l2i2
  show wpAny _ _ (field (.ref z) 2 >>= _) _ _ _; refine wpAny_bind (wpAny_field qz rfl (x := .bool false) rfl ?_)
  show wpAny _ _ (field (.ref z) 3 >>= _) _ _ _; refine wpAny_bind (wpAny_field qz rfl (x := .ref TI) rfl ?_)
  refine wpAny_bind (wpAny_seqItems qI rfl ?_)
  show wpAny _ _ (Builtin.SmallTypes.ownedTupleIsFree (.ref z) >>= _) _ _ _; refine wpAny_bind ?_
  unfold Builtin.SmallTypes.ownedTupleIsFree
  refine wpAny_bind (wpAny_field qz rfl (x := .none) rfl (wpAny_pure ?_))
  simp only [if_true]
  refine wpAny_bind (wpAny_rule ?_); refine wpAny_bind (wpAny_field qz rfl (x := .ref TO) rfl ?_)
  refine wpAny_bind (wpAny_setField_rec qz (by simp) fun g1 z1 b1 => ?_)
  replace z1 : IsZip g1 z TI TO .ellipsis := z1
  refine wpAny_bind ?_; simp only [List.zipIdx_cons, List.zipIdx_nil, List.forIn_cons, List.forIn_nil]
  refine wpAny_bind (wpAny_bind (wpAny_onRaise ?_)); show wpAny _ _ (Builtin.SmallTypes.nextOf (.ref i1) >>= _) _ _ _
  cases hx : xs[k1]? with
  | none =>
    refine wpAny_bind (sq_last hh (q1.but b1.extBut D.i1z D.l1z) hx fun g2 e b2 he => ?_)
    obtain ⟨oe, hoe, hce⟩ := he
    have z2 : IsZip g2 z TI TO .ellipsis := b2 _ _ D.i1z.symm z1
    have ez : e ≠ z := fun x => by subst x; rw [z2] at hoe; cases hoe; simp at hce
    exact wpAny_setField_rec z2 (by simp) fun g3 _ b3 => hE g3 e (fun c o c1 _ c3 _ x => b3.extBut _ _ c1 (b2 _ _ c3 (b1.extBut _ _ c1 x))) ⟨oe, b3.extBut _ _ ez hoe, hce⟩
  | some x =>
    have hy : ys[k2]? = none := by rcases hend with h | h; rw [hx] at h; cases h; exact h
    refine wpAny_bind (sq_next (q1.but b1.extBut D.i1z D.l1z) n1 hx fun g2 r1 b2 => wpAny_pure ?_)
    have o2 : IsPair g2 TO a b := b2.extBut _ _ D.TOi1 (b1.extBut _ _ D.TOz qO)
    refine wpAny_bind (wpAny_seqItems o2 rfl ?_); refine wpAny_bind (wpAny_updateSeq_pair o2 fun g3 o3 b3 => ?_); refine wpAny_bind (wpAny_letGo (wpAny_pure ?_))
    refine wpAny_bind (wpAny_bind (wpAny_onRaise ?_)); show wpAny _ _ (Builtin.SmallTypes.nextOf (.ref i2) >>= _) _ _ _
    refine wpAny_bind (sq_last hh (((q2.but b1.extBut D.i2z D.l2z).but b2.extBut D.i12.symm D.l2i1).but b3.extBut D.TOi2.symm D.l2TO) hy fun g4 e b4 he => ?_)
    obtain ⟨oe, hoe, hce⟩ := he
    have z4 : IsZip g4 z TI TO .ellipsis := b4 _ _ D.i2z.symm (b3.extBut _ _ D.TOz.symm (b2.extBut _ _ D.i1z.symm z1))
    have ez : e ≠ z := fun x => by subst x; rw [z4] at hoe; cases hoe; simp at hce
    exact wpAny_setField_rec z4 (by simp) fun g5 _ b5 => hE g5 e (fun c o c1 c2 c3 c4 x => b5.extBut _ _ c1 (b4 _ _ c4 (b3.extBut _ _ c2 (b2.extBut _ _ c3 (b1.extBut _ _ c1 x))))) ⟨oe, b5.extBut _ _ ez hoe, hce⟩
/-- the next pair, the last one being still out -/
theorem zq_itemH {Q : Value → Shared → Prop} (D : ZipApart z TI TO i1 i2 l1 l2) (qz : IsZipHeld s.heap z TI TO T f) (hT : s.heap.get? T = some oT) (qI : IsPair s.heap TI (.ref i1) (.ref i2)) (q1 : SqI t1 s.heap i1 l1 k1 xs) (q2 : SqI t2 s.heap i2 l2 k2 ys) (hx : xs[k1]? = some x) (hy : ys[k2]? = some y)
    (hQ : ∀ h', IsZipHeld h' z TI TO T true → SqI t1 h' i1 l1 (k1 + 1) xs → SqI t2 h' i2 l2 (k2 + 1) ys → IsPair h' s.heap.objs.size x y → h'.objs.size = s.heap.objs.size + 1 → (∀ c o, c ≠ z → c ≠ i1 → c ≠ i2 → s.heap.get? c = some o → h'.get? c = some o) → Q (.ref s.heap.objs.size) { s with heap := h' }) :
    wpAny (model prog w) A (Builtin.«zip.__next__» ⟨[.ref z], []⟩) (fun fin s' => ∃ v, fin = .done (.ret v) ∧ Q v s') E s := by
  have n1 := D.l1i1
  have n2 := D.l2i2
  show wpAny _ _ (field (.ref z) 2 >>= _) _ _ _; refine wpAny_bind (wpAny_field qz rfl (x := .bool false) rfl ?_)
  show wpAny _ _ (field (.ref z) 3 >>= _) _ _ _; refine wpAny_bind (wpAny_field qz rfl (x := .ref TI) rfl ?_)
  refine wpAny_bind (wpAny_seqItems qI rfl ?_)
  show wpAny _ _ (Builtin.SmallTypes.ownedTupleIsFree (.ref z) >>= _) _ _ _
  refine wpAny_bind (wpAny_tupleHeld_zip qz hT fun g1 z1 b1 => ?_)
  simp only [Bool.false_eq_true, if_false]
  refine wpAny_bind ?_; rw [← Array.forIn_toList]; simp only [List.forIn_cons, List.forIn_nil]
  refine wpAny_bind (wpAny_bind (wpAny_holding ?_)); show wpAny _ _ (Builtin.SmallTypes.nextOf (.ref i1) >>= _) _ _ _
  refine wpAny_bind (sq_next (s := { s with heap := g1 }) (q1.but b1.extBut D.i1z D.l1z) n1 hx fun g2 r1 b2 => wpAny_pure ?_)
  refine wpAny_pure ?_; refine wpAny_bind (wpAny_bind (wpAny_holding ?_)); show wpAny _ _ (Builtin.SmallTypes.nextOf (.ref i2) >>= _) _ _ _
  refine wpAny_bind (sq_next (s := { s with heap := g2 }) ((q2.but b1.extBut D.i2z D.l2z).but b2.extBut D.i12.symm D.l2i1) n2 hy fun g3 r2 b3 => wpAny_pure ?_)
  refine wpAny_pure (wpAny_pure ?_)
  show wpAny _ _ (newTuple [x, y] >>= _) _ _ _; refine wpAny_bind (wpAny_newTuple ?_)
  have sz : g3.objs.size = s.heap.objs.size := by rw [b3.1, b2.1, b1.1]
  have z3 : IsZipHeld g3 z TI TO T true := b3.extBut _ _ D.i2z.symm (b2.extBut _ _ D.i1z.symm z1)
  have hk : ∀ c o, c ≠ z → c ≠ i1 → c ≠ i2 → s.heap.get? c = some o → g3.get? c = some o := fun c o c1 c2 c3 e => b3.extBut _ _ c3 (b2.extBut _ _ c2 (b1.extBut _ _ c1 e))
  have p1 : SqI t1 g3 i1 l1 (k1 + 1) xs := r1.but b3.extBut D.i12 D.l1i2
  refine wpAny_pure ⟨_, rfl, ?_⟩
  show Q (.ref g3.objs.size) _
  have hp : IsPair (g3.push { cls := .type "tuple", data := .seq #[x, y] }) g3.objs.size x y := Heap.get?_push_size _ rfl
  have s4 : (g3.push { cls := .type "tuple", data := .seq #[x, y] }).objs.size = g3.objs.size + 1 := Heap.size_push ..
  rw [sz] at hp s4 ⊢
  exact hQ _ (Heap.get?_push_of_some _ z3) (p1.keep fun c o _ e => Heap.get?_push_of_some _ e) (r2.keep fun c o _ e => Heap.get?_push_of_some _ e) hp s4 fun c o c1 c2 c3 e => Heap.get?_push_of_some _ (hk c o c1 c2 c3 e)
theorem zq_endH {Q : Fin → Shared → Prop} (hh : A.handled = none) (D : ZipApart z TI TO i1 i2 l1 l2) (qz : IsZipHeld s.heap z TI TO T f) (hT : s.heap.get? T = some oT) (qI : IsPair s.heap TI (.ref i1) (.ref i2)) (q1 : SqI t1 s.heap i1 l1 k1 xs) (q2 : SqI t2 s.heap i2 l2 k2 ys) (hend : xs[k1]? = none ∨ ys[k2]? = none)
    (hE : ∀ h' e, (∀ c o, c ≠ z → c ≠ i1 → c ≠ i2 → s.heap.get? c = some o → h'.get? c = some o) → (∃ o, h'.get? e = some o ∧ o.cls = .type "StopIteration") → E (.ref e) { s with heap := h' }) : wpAny (model prog w) A (Builtin.«zip.__next__» ⟨[.ref z], []⟩) Q E s := by
  have n1 := D.l1i1
  show wpAny _ _ (field (.ref z) 2 >>= _) _ _ _; refine wpAny_bind (wpAny_field qz rfl (x := .bool false) rfl ?_)
  show wpAny _ _ (field (.ref z) 3 >>= _) _ _ _; refine wpAny_bind (wpAny_field qz rfl (x := .ref TI) rfl ?_)
  refine wpAny_bind (wpAny_seqItems qI rfl ?_)
  show wpAny _ _ (Builtin.SmallTypes.ownedTupleIsFree (.ref z) >>= _) _ _ _
  refine wpAny_bind (wpAny_tupleHeld_zip qz hT fun g1 z1 b1 => ?_)
  simp only [Bool.false_eq_true, if_false]
  refine wpAny_bind ?_; rw [← Array.forIn_toList]; simp only [List.forIn_cons, List.forIn_nil]
  refine wpAny_bind (wpAny_bind (wpAny_holding ?_)); show wpAny _ _ (Builtin.SmallTypes.nextOf (.ref i1) >>= _) _ _ _
  cases hx : xs[k1]? with
  | none => exact wpAny_bind (sq_last (s := { s with heap := g1 }) hh (q1.but b1.extBut D.i1z D.l1z) hx fun g2 e b2 he => hE g2 e (fun c o c1 c2 _ x => b2 _ _ c2 (b1.extBut _ _ c1 x)) he)
  | some x =>
    have hy : ys[k2]? = none := by rcases hend with h | h; rw [hx] at h; cases h; exact h
    refine wpAny_bind (sq_next (s := { s with heap := g1 }) (q1.but b1.extBut D.i1z D.l1z) n1 hx fun g2 r1 b2 => wpAny_pure ?_)
    refine wpAny_pure ?_; refine wpAny_bind (wpAny_bind (wpAny_holding ?_)); show wpAny _ _ (Builtin.SmallTypes.nextOf (.ref i2) >>= _) _ _ _
    exact wpAny_bind (sq_last (s := { s with heap := g2 }) hh ((q2.but b1.extBut D.i2z D.l2z).but b2.extBut D.i12.symm D.l2i1) hy fun g3 e b3 he => hE g3 e (fun c o c1 c2 c3 x => b3 _ _ c3 (b2.extBut _ _ c2 (b1.extBut _ _ c1 x))) he)
/-- 'next', four times -/
theorem pn_item {Q : Option Value → Shared → Prop} (D : ZipApart z TI TO i1 i2 l1 l2) (qz : IsZip s.heap z TI TO .none) (qI : IsPair s.heap TI (.ref i1) (.ref i2)) (qO : IsPair s.heap TO a b) (q1 : SqI t1 s.heap i1 l1 k1 xs) (q2 : SqI t2 s.heap i2 l2 k2 ys) (hx : xs[k1]? = some x) (hy : ys[k2]? = some y)
    (hQ : ∀ h', IsZip h' z TI TO (rawInt s.heap.objs.size) → IsPair h' TO x y → SqI t1 h' i1 l1 (k1 + 1) xs → SqI t2 h' i2 l2 (k2 + 1) ys → IsPair h' s.heap.objs.size x y → h'.objs.size = s.heap.objs.size + 1 → (∀ c o, c ≠ z → c ≠ TO → c ≠ i1 → c ≠ i2 → s.heap.get? c = some o → h'.get? c = some o) → Q (some (.ref s.heap.objs.size)) { s with heap := h' }) : wpAny (model prog w) A (pyNext (.ref z)) Q E s := by
  have tz : s.TypeIs (.ref z) "zip" := ⟨_, qz, rfl⟩
  unfold pyNext
  exact wpAny_bind (wpAny_attempt (wpAny_callSpecial?_slot (name := Str.ofString "__next__") tz F.slot_zip_next (wpAny_call_entry F.slot_zip_next tz F.entry_zip_next (zq_item D qz qI qO q1 q2 hx hy fun h' a1 a2 a3 a4 a5 a6 a7 => wpAny_pure (hQ h' a1 a2 a3 a4 a5 a6 a7)) (F.args_zip_next_1 _))))
theorem pn_end {Q : Option Value → Shared → Prop} (hh : A.handled = none) (D : ZipApart z TI TO i1 i2 l1 l2) (qz : IsZip s.heap z TI TO .none) (qI : IsPair s.heap TI (.ref i1) (.ref i2)) (qO : IsPair s.heap TO a b) (q1 : SqI t1 s.heap i1 l1 k1 xs) (q2 : SqI t2 s.heap i2 l2 k2 ys) (hend : xs[k1]? = none ∨ ys[k2]? = none)
    (hQ : ∀ h', (∀ c o, c ≠ z → c ≠ TO → c ≠ i1 → c ≠ i2 → s.heap.get? c = some o → h'.get? c = some o) → Q none { s with heap := h' }) : wpAny (model prog w) A (pyNext (.ref z)) Q E s := by
  have tz : s.TypeIs (.ref z) "zip" := ⟨_, qz, rfl⟩
  unfold pyNext
  refine wpAny_bind (wpAny_attempt (wpAny_callSpecial?_slot (name := Str.ofString "__next__") tz F.slot_zip_next (wpAny_call_entry F.slot_zip_next tz F.entry_zip_next (zq_end hh D qz qI qO q1 q2 hend fun h' e hk he => ?_) (F.args_zip_next_1 _))))
  obtain ⟨o, ho, hc⟩ := he
  exact wpAny_bind (wpAny_isInstance (T := "StopIteration") (b := true) ⟨o, ho, hc⟩ isSubtype_stop (wpAny_pure (hQ _ hk)))
theorem pn_itemH {Q : Option Value → Shared → Prop} (D : ZipApart z TI TO i1 i2 l1 l2) (qz : IsZipHeld s.heap z TI TO T f) (hT : s.heap.get? T = some oT) (qI : IsPair s.heap TI (.ref i1) (.ref i2)) (q1 : SqI t1 s.heap i1 l1 k1 xs) (q2 : SqI t2 s.heap i2 l2 k2 ys) (hx : xs[k1]? = some x) (hy : ys[k2]? = some y)
    (hQ : ∀ h', IsZipHeld h' z TI TO T true → SqI t1 h' i1 l1 (k1 + 1) xs → SqI t2 h' i2 l2 (k2 + 1) ys → IsPair h' s.heap.objs.size x y → h'.objs.size = s.heap.objs.size + 1 → (∀ c o, c ≠ z → c ≠ i1 → c ≠ i2 → s.heap.get? c = some o → h'.get? c = some o) → Q (some (.ref s.heap.objs.size)) { s with heap := h' }) : wpAny (model prog w) A (pyNext (.ref z)) Q E s := by
  have tz : s.TypeIs (.ref z) "zip" := ⟨_, qz, rfl⟩
  unfold pyNext
  exact wpAny_bind (wpAny_attempt (wpAny_callSpecial?_slot (name := Str.ofString "__next__") tz F.slot_zip_next (wpAny_call_entry F.slot_zip_next tz F.entry_zip_next (zq_itemH D qz hT qI q1 q2 hx hy fun h' a1 a3 a4 a5 a6 a7 => wpAny_pure (hQ h' a1 a3 a4 a5 a6 a7)) (F.args_zip_next_1 _))))
theorem pn_endH {Q : Option Value → Shared → Prop} (hh : A.handled = none) (D : ZipApart z TI TO i1 i2 l1 l2) (qz : IsZipHeld s.heap z TI TO T f) (hT : s.heap.get? T = some oT) (qI : IsPair s.heap TI (.ref i1) (.ref i2)) (q1 : SqI t1 s.heap i1 l1 k1 xs) (q2 : SqI t2 s.heap i2 l2 k2 ys) (hend : xs[k1]? = none ∨ ys[k2]? = none)
    (hQ : ∀ h', (∀ c o, c ≠ z → c ≠ i1 → c ≠ i2 → s.heap.get? c = some o → h'.get? c = some o) → Q none { s with heap := h' }) : wpAny (model prog w) A (pyNext (.ref z)) Q E s := by
  have tz : s.TypeIs (.ref z) "zip" := ⟨_, qz, rfl⟩
  unfold pyNext
  refine wpAny_bind (wpAny_attempt (wpAny_callSpecial?_slot (name := Str.ofString "__next__") tz F.slot_zip_next (wpAny_call_entry F.slot_zip_next tz F.entry_zip_next (zq_endH hh D qz hT qI q1 q2 hend fun h' e hk he => ?_) (F.args_zip_next_1 _))))
  obtain ⟨o, ho, hc⟩ := he
  exact wpAny_bind (wpAny_isInstance (T := "StopIteration") (b := true) ⟨o, ho, hc⟩ isSubtype_stop (wpAny_pure (hQ _ hk)))
end

/-! ### zip of a list and a tuple -/
abbrev hzA1 (h : Heap) (l1 : Addr) : Heap := h.push { cls := .type "list_iterator", data := .fields #[.ref l1, .int 0 0] }
abbrev hzA2 (h : Heap) (l1 l2 : Addr) : Heap := (hzA1 h l1).push { cls := .type "tuple_iterator", data := .fields #[.ref l2, .int 0 0] }
abbrev hzA3 (h : Heap) (l1 l2 : Addr) : Heap := (hzA2 h l1 l2).push { cls := .type "tuple", data := .seq #[.ref h.objs.size, .ref (hzA1 h l1).objs.size] }
abbrev hzA4 (h : Heap) (l1 l2 : Addr) : Heap := (hzA3 h l1 l2).push { cls := .type "tuple", data := .seq #[.none, .none] }
abbrev hzA5 (h : Heap) (l1 l2 : Addr) : Heap := (hzA4 h l1 l2).push { cls := .type "zip", data := .fields #[.none, .bool false, .bool false, .ref (hzA2 h l1 l2).objs.size, .ref (hzA3 h l1 l2).objs.size] }
theorem zip_madeA (l1 l2 : Addr) (xs ys : Array Value) : Meets (Builtin.«zip.__new__» ⟨[.type "zip", .ref l1, .ref l2], []⟩) (fun _ R s => s.heap.IsList l1 xs ∧ s.heap.IsTuple l2 ys ∧ R (.ok (.ret (.ref (hzA4 s.heap l1 l2).objs.size))) { s with heap := hzA5 s.heap l1 l2 }) :=
  .of_wp fun prog w A R s q => by
    obtain ⟨hp, g, d, tk, os⟩ := s
    obtain ⟨q1, q2, q⟩ := q
    have hsub := sub_zip
    have e1 : Heap.IsList (Shared.heap ⟨hp, g, d, tk, os⟩) l1 xs := q1
    have e2 : Heap.IsTuple (Shared.heap ⟨hzA1 hp l1, g, d, tk, os⟩) l2 ys := Heap.IsTuple.push q2 _
    wp_walk using wpAny_pyIter_list e1, wpAny_pyIter_tuple e2
    exact ⟨_, rfl, q⟩
theorem call_zipA {prog : Program} {w : World} {A : Around} {E : Value → Shared → Prop} {s : Shared} {l1 l2 : Addr} {xs ys : Array Value} {Q : Value → Shared → Prop} (q1 : s.heap.IsList l1 xs) (q2 : s.heap.IsTuple l2 ys)
    (h : ∀ h', IsZip h' (s.heap.objs.size + 4) (s.heap.objs.size + 2) (s.heap.objs.size + 3) .none → IsPair h' (s.heap.objs.size + 2) (.ref s.heap.objs.size) (.ref (s.heap.objs.size + 1)) → IsPair h' (s.heap.objs.size + 3) .none .none → h'.IsListIter s.heap.objs.size l1 0 → h'.IsTupleIter (s.heap.objs.size + 1) l2 0 →
      (∀ c o, s.heap.get? c = some o → h'.get? c = some o) → Q (.ref (s.heap.objs.size + 4)) { s with heap := h' }) : wpAny (model prog w) A (call (.type "zip") [.ref l1, .ref l2]) Q E s := by
  refine callType_new F.called_zip (by decide) (F.typeCall_zip_2 _ _) (F.newCall_zip_2 _ _) (fun obj => F.args_object_init_3 obj _ _) F.entry_zip_new (zip_madeA l1 l2 xs ys) ⟨q1, q2, ?_⟩
  have z1 : (hzA1 s.heap l1).objs.size = s.heap.objs.size + 1 := Heap.size_push ..
  have z2 : (hzA2 s.heap l1 l2).objs.size = s.heap.objs.size + 2 := by rw [Heap.size_push, z1]
  have z3 : (hzA3 s.heap l1 l2).objs.size = s.heap.objs.size + 3 := by rw [Heap.size_push, z2]
  have z4 : (hzA4 s.heap l1 l2).objs.size = s.heap.objs.size + 4 := by rw [Heap.size_push, z3]
  have g5 : (hzA5 s.heap l1 l2).get? (hzA4 s.heap l1 l2).objs.size = some _ := Heap.get?_push_size _ rfl
  have g4 : (hzA5 s.heap l1 l2).get? (hzA3 s.heap l1 l2).objs.size = some _ := Heap.get?_push_of_some _ (Heap.get?_push_size _ rfl)
  have g3 : (hzA5 s.heap l1 l2).get? (hzA2 s.heap l1 l2).objs.size = some _ := Heap.get?_push_of_some _ (Heap.get?_push_of_some _ (Heap.get?_push_size _ rfl))
  have g2 : (hzA5 s.heap l1 l2).get? (hzA1 s.heap l1).objs.size = some _ := Heap.get?_push_of_some _ (Heap.get?_push_of_some _ (Heap.get?_push_of_some _ (Heap.get?_push_size _ rfl)))
  have g1 : (hzA5 s.heap l1 l2).get? s.heap.objs.size = some _ := Heap.get?_push_of_some _ (Heap.get?_push_of_some _ (Heap.get?_push_of_some _ (Heap.get?_push_of_some _ (Heap.get?_push_size _ rfl))))
  show _ ∧ _
  rw [z2, z3, z4] at g5; rw [z1, z2] at g3; rw [z3] at g4; rw [z1] at g2; rw [z4]
  exact ⟨⟨_, g5, rfl⟩, h _ g5 g3 g4 ⟨_, g1, rfl, rfl⟩ ⟨_, g2, rfl, rfl⟩ fun c o x => Heap.get?_push_of_some _ (Heap.get?_push_of_some _ (Heap.get?_push_of_some _ (Heap.get?_push_of_some _ (Heap.get?_push_of_some _ x))))⟩

/-! ### zip of a tuple and a list -/
abbrev hzB1 (h : Heap) (l1 : Addr) : Heap := h.push { cls := .type "tuple_iterator", data := .fields #[.ref l1, .int 0 0] }
abbrev hzB2 (h : Heap) (l1 l2 : Addr) : Heap := (hzB1 h l1).push { cls := .type "list_iterator", data := .fields #[.ref l2, .int 0 0] }
abbrev hzB3 (h : Heap) (l1 l2 : Addr) : Heap := (hzB2 h l1 l2).push { cls := .type "tuple", data := .seq #[.ref h.objs.size, .ref (hzB1 h l1).objs.size] }
abbrev hzB4 (h : Heap) (l1 l2 : Addr) : Heap := (hzB3 h l1 l2).push { cls := .type "tuple", data := .seq #[.none, .none] }
abbrev hzB5 (h : Heap) (l1 l2 : Addr) : Heap := (hzB4 h l1 l2).push { cls := .type "zip", data := .fields #[.none, .bool false, .bool false, .ref (hzB2 h l1 l2).objs.size, .ref (hzB3 h l1 l2).objs.size] }
theorem zip_madeB (l1 l2 : Addr) (xs ys : Array Value) : Meets (Builtin.«zip.__new__» ⟨[.type "zip", .ref l1, .ref l2], []⟩) (fun _ R s => s.heap.IsTuple l1 xs ∧ s.heap.IsList l2 ys ∧ R (.ok (.ret (.ref (hzB4 s.heap l1 l2).objs.size))) { s with heap := hzB5 s.heap l1 l2 }) :=
  .of_wp fun prog w A R s q => by
    obtain ⟨hp, g, d, tk, os⟩ := s
    obtain ⟨q1, q2, q⟩ := q
    have hsub := sub_zip
    have e1 : Heap.IsTuple (Shared.heap ⟨hp, g, d, tk, os⟩) l1 xs := q1
    have e2 : Heap.IsList (Shared.heap ⟨hzB1 hp l1, g, d, tk, os⟩) l2 ys := Heap.IsList.push q2 _
    wp_walk using wpAny_pyIter_tuple e1, wpAny_pyIter_list e2
    exact ⟨_, rfl, q⟩
theorem call_zipB {prog : Program} {w : World} {A : Around} {E : Value → Shared → Prop} {s : Shared} {l1 l2 : Addr} {xs ys : Array Value} {Q : Value → Shared → Prop} (q1 : s.heap.IsTuple l1 xs) (q2 : s.heap.IsList l2 ys)
    (h : ∀ h', IsZip h' (s.heap.objs.size + 4) (s.heap.objs.size + 2) (s.heap.objs.size + 3) .none → IsPair h' (s.heap.objs.size + 2) (.ref s.heap.objs.size) (.ref (s.heap.objs.size + 1)) → IsPair h' (s.heap.objs.size + 3) .none .none → h'.IsTupleIter s.heap.objs.size l1 0 → h'.IsListIter (s.heap.objs.size + 1) l2 0 →
      (∀ c o, s.heap.get? c = some o → h'.get? c = some o) → Q (.ref (s.heap.objs.size + 4)) { s with heap := h' }) : wpAny (model prog w) A (call (.type "zip") [.ref l1, .ref l2]) Q E s := by
  refine callType_new F.called_zip (by decide) (F.typeCall_zip_2 _ _) (F.newCall_zip_2 _ _) (fun obj => F.args_object_init_3 obj _ _) F.entry_zip_new (zip_madeB l1 l2 xs ys) ⟨q1, q2, ?_⟩
  have z1 : (hzB1 s.heap l1).objs.size = s.heap.objs.size + 1 := Heap.size_push ..
  have z2 : (hzB2 s.heap l1 l2).objs.size = s.heap.objs.size + 2 := by rw [Heap.size_push, z1]
  have z3 : (hzB3 s.heap l1 l2).objs.size = s.heap.objs.size + 3 := by rw [Heap.size_push, z2]
  have z4 : (hzB4 s.heap l1 l2).objs.size = s.heap.objs.size + 4 := by rw [Heap.size_push, z3]
  have g5 : (hzB5 s.heap l1 l2).get? (hzB4 s.heap l1 l2).objs.size = some _ := Heap.get?_push_size _ rfl
  have g4 : (hzB5 s.heap l1 l2).get? (hzB3 s.heap l1 l2).objs.size = some _ := Heap.get?_push_of_some _ (Heap.get?_push_size _ rfl)
  have g3 : (hzB5 s.heap l1 l2).get? (hzB2 s.heap l1 l2).objs.size = some _ := Heap.get?_push_of_some _ (Heap.get?_push_of_some _ (Heap.get?_push_size _ rfl))
  have g2 : (hzB5 s.heap l1 l2).get? (hzB1 s.heap l1).objs.size = some _ := Heap.get?_push_of_some _ (Heap.get?_push_of_some _ (Heap.get?_push_of_some _ (Heap.get?_push_size _ rfl)))
  have g1 : (hzB5 s.heap l1 l2).get? s.heap.objs.size = some _ := Heap.get?_push_of_some _ (Heap.get?_push_of_some _ (Heap.get?_push_of_some _ (Heap.get?_push_of_some _ (Heap.get?_push_size _ rfl))))
  show _ ∧ _
  rw [z2, z3, z4] at g5; rw [z1, z2] at g3; rw [z3] at g4; rw [z1] at g2; rw [z4]
  exact ⟨⟨_, g5, rfl⟩, h _ g5 g3 g4 ⟨_, g1, rfl, rfl⟩ ⟨_, g2, rfl, rfl⟩ fun c o x => Heap.get?_push_of_some _ (Heap.get?_push_of_some _ (Heap.get?_push_of_some _ (Heap.get?_push_of_some _ (Heap.get?_push_of_some _ x))))⟩

/-- a list or a tuple -/
def IsSq (t : Bool) (h : Heap) (l : Addr) (xs : Array Value) : Prop := match t with
  | true => h.IsList l xs
  | false => h.IsTuple l xs
theorem call_zipQ {prog : Program} {w : World} {A : Around} {E : Value → Shared → Prop} {s : Shared} {l1 l2 : Addr} {xs ys : Array Value} {Q : Value → Shared → Prop} {t1 t2 : Bool} (q1 : IsSq t1 s.heap l1 xs) (q2 : IsSq t2 s.heap l2 ys)
    (h : ∀ h', IsZip h' (s.heap.objs.size + 4) (s.heap.objs.size + 2) (s.heap.objs.size + 3) .none → IsPair h' (s.heap.objs.size + 2) (.ref s.heap.objs.size) (.ref (s.heap.objs.size + 1)) → IsPair h' (s.heap.objs.size + 3) .none .none → SqI t1 h' s.heap.objs.size l1 0 xs → SqI t2 h' (s.heap.objs.size + 1) l2 0 ys →
      (∀ c o, s.heap.get? c = some o → h'.get? c = some o) → Q (.ref (s.heap.objs.size + 4)) { s with heap := h' }) : wpAny (model prog w) A (call (.type "zip") [.ref l1, .ref l2]) Q E s := by
  cases t1 <;> cases t2
  · exact RZ.call_zipT q1 q2 fun h' a1 a2 a3 a4 a5 _ k => h h' a1 a2 a3 ⟨a4, q1.at fun o e => k _ o e⟩ ⟨a5, q2.at fun o e => k _ o e⟩ k
  · exact call_zipB q1 q2 fun h' a1 a2 a3 a4 a5 k => h h' a1 a2 a3 ⟨a4, q1.at fun o e => k _ o e⟩ ⟨a5, q2.at fun o e => k _ o e⟩ k
  · exact call_zipA q1 q2 fun h' a1 a2 a3 a4 a5 k => h h' a1 a2 a3 ⟨a4, q1.at fun o e => k _ o e⟩ ⟨a5, q2.at fun o e => k _ o e⟩ k
  · exact call_zip_2 q1 q2 fun h' a1 a2 a3 a4 a5 _ k => h h' a1 a2 a3 ⟨a4, q1.at fun o e => k _ o e⟩ ⟨a5, q2.at fun o e => k _ o e⟩ k
/-- zip as what dict() takes -/
theorem zip_arg {prog : Program} {w : World} (t1 t2 : Bool) (z TI TO i1 i2 l1 l2 : Addr) (D : ZipApart z TI TO i1 i2 l1 l2) (xs ys : Array Value) (hs : xs.size = ys.size) :
    PairArg prog w "zip" z [z, TI, TO, i1, i2, l1, l2] [z, TO, i1, i2] xs.size (fun i k v => xs[i]? = some k ∧ ys[i]? = some v) (fun h => IsZip h z TI TO .none ∧ IsPair h TI (.ref i1) (.ref i2) ∧ (∃ a b, IsPair h TO a b) ∧ SqI t1 h i1 l1 0 xs ∧ SqI t2 h i2 l2 0 ys) where
  type := fun s ok => ⟨_, ok.1, rfl⟩
  notDict := by decide
  keep := fun h h' ok hk => by
    obtain ⟨qz, qI, ⟨a, b, qO⟩, h1, h2⟩ := ok
    exact ⟨hk _ _ qz, hk _ _ qI, ⟨a, b, hk _ _ qO⟩, h1.keep fun c o _ => hk c o, h2.keep fun c o _ => hk c o⟩
  there := fun h ok b hb => by
    obtain ⟨qz, qI, ⟨a, c, qO⟩, h1, h2⟩ := ok
    obtain ⟨⟨o1, e1, _⟩, o2, e2⟩ := h1.obj
    obtain ⟨⟨o3, e3, _⟩, o4, e4⟩ := h2.obj
    simp only [List.mem_cons, List.not_mem_nil, or_false] at hb
    rcases hb with rfl | rfl | rfl | rfl | rfl | rfl | rfl
    all_goals first | exact ⟨_, qz⟩ | exact ⟨_, qI⟩ | exact ⟨_, qO⟩ | exact ⟨_, e1⟩ | exact ⟨_, e3⟩ | exact ⟨_, e2⟩ | exact ⟨_, e4⟩
  sub := fun b hb => by simp at hb ⊢; rcases hb with rfl | rfl | rfl | rfl <;> simp
  noKeys := fun A s Q E hA ok h => getAttrOr_miss_zip ok.1 rfl rfl rfl zip_no_keys (by decide +kernel) hA h
  iter := fun A s d Q E hA ok hd hdf h => by
    obtain ⟨qz, qI, ⟨a, b, qO⟩, h1, h2⟩ := ok
    simp only [List.mem_cons, List.not_mem_nil, or_false, not_or] at hdf
    obtain ⟨dz, dTI, dTO, di1, di2, dl1, dl2⟩ := hdf
    refine wpAny_pyIter_zip qz (h z [z, TO, i1, i2] (fun i h => IsPair h TI (.ref i1) (.ref i2) ∧ SqI t1 h i1 l1 i xs ∧ SqI t2 h i2 l2 i ys ∧ ((IsZip h z TI TO .none ∧ ∃ a b, IsPair h TO a b) ∨ ∃ T f oT, IsZipHeld h z TI TO T f ∧ h.get? T = some oT ∧ T ≠ z ∧ T ≠ i1 ∧ T ≠ i2 ∧ T ≠ d)) s.heap s.toks ?_
      ⟨qI, h1, h2, .inl ⟨qz, a, b, qO⟩⟩ (fun _ _ e => e) fun b hb => .inl hb)
    exact {
      off := fun hm => by
        simp only [List.mem_cons, List.not_mem_nil, or_false] at hm
        rcases hm with e | e | e | e
        · exact dz e
        · exact dTO e
        · exact di1 e
        · exact di2 e
      frame := fun i g1 g2 st hk => by
        obtain ⟨qI, h1, h2, qz⟩ := st
        refine ⟨hk _ _ (Ne.symm dTI) qI, h1.keep fun c o q => hk c o (by rcases q with rfl | rfl; exact Ne.symm di1; exact Ne.symm dl1), h2.keep fun c o q => hk c o (by rcases q with rfl | rfl; exact Ne.symm di2; exact Ne.symm dl2), ?_⟩
        rcases qz with ⟨qz, a, b, qO⟩ | ⟨T, f, oT, qz, hT, r1, r2, r3, r4⟩
        · exact .inl ⟨hk _ _ (Ne.symm dz) qz, a, b, hk _ _ (Ne.symm dTO) qO⟩
        · exact .inr ⟨T, f, oT, hk _ _ (Ne.symm dz) qz, hk _ _ r4 hT, r1, r2, r3, r4⟩
      item := fun i s1 Q1 E1 hi st hds hQ => by
        obtain ⟨qI, h1, h2, qz⟩ := st
        have ex := Array.getElem?_eq_getElem hi
        have ey := Array.getElem?_eq_getElem (show i < ys.size by omega)
        have lt : ∀ {c o}, s1.heap.get? c = some o → s1.heap.objs.size ≠ c := fun e => Nat.ne_of_gt (Heap.lt_size e)
        have m1 : s1.heap.objs.size ≠ i1 := let ⟨⟨_, e, _⟩, _⟩ := h1.obj; lt e
        have m2 : s1.heap.objs.size ≠ i2 := let ⟨⟨_, e, _⟩, _⟩ := h2.obj; lt e
        rcases qz with ⟨qz, a, b, qO⟩ | ⟨T, f, oT, qz, hT, r1, r2, r3, r4⟩
        · refine pn_item D qz qI qO h1 h2 ex ey fun h' a1 a2 a3 a4 a5 a6 hk => ?_
          exact hQ s1.heap.objs.size _ _ h' s1.toks ⟨ex, ey⟩ (.inl ⟨_, a5, rfl, _, rfl⟩) ⟨hk _ _ D.TIz D.TITO D.TIi1 D.TIi2 qI, a3, a4, .inr ⟨s1.heap.objs.size, false, _, a1, a5, lt qz, m1, m2, Nat.ne_of_gt hds⟩⟩
            fun c o hc e => hk c o (fun x => hc (by simp [x])) (fun x => hc (by simp [x])) (fun x => hc (by simp [x])) (fun x => hc (by simp [x])) e
        · refine pn_itemH D qz hT qI h1 h2 ex ey fun h' a1 a3 a4 a5 a6 hk => ?_
          exact hQ s1.heap.objs.size _ _ h' s1.toks ⟨ex, ey⟩ (.inl ⟨_, a5, rfl, _, rfl⟩) ⟨hk _ _ D.TIz D.TIi1 D.TIi2 qI, a3, a4, .inr ⟨T, true, oT, a1, hk _ _ r1 r2 r3 hT, r1, r2, r3, r4⟩⟩
            fun c o hc e => hk c o (fun x => hc (by simp [x])) (fun x => hc (by simp [x])) (fun x => hc (by simp [x])) e
      done := fun s1 Q1 E1 st hQ => by
        obtain ⟨qI, h1, h2, qz⟩ := st
        have hend : xs[xs.size]? = none ∨ ys[xs.size]? = none := .inl (Array.getElem?_eq_none (Nat.le_refl _))
        rcases qz with ⟨qz, a, b, qO⟩ | ⟨T, f, oT, qz, hT, r1, r2, r3, r4⟩
        · exact pn_end hA D qz qI qO h1 h2 hend fun h' hk => hQ h' s1.toks fun c o hc e => hk c o (fun x => hc (by simp [x])) (fun x => hc (by simp [x])) (fun x => hc (by simp [x])) (fun x => hc (by simp [x])) e
        · exact pn_endH hA D qz hT qI h1 h2 hend fun h' hk => hQ h' s1.toks fun c o hc e => hk c o (fun x => hc (by simp [x])) (fun x => hc (by simp [x])) (fun x => hc (by simp [x])) e }
end G

set_option Elab.async false
set_option linter.all false
set_option maxRecDepth 100000
set_option maxHeartbeats 4000000
/- dicts of our own with whole numbers as keys and values -/
namespace G
open PySem L2 PySem.Spec PyProof.Rows
def kvI (l : List (Int × Int)) : List (Key × PyData) := l.map fun p => (.inl p.1, .int p.2)
def lkI (l : List (Int × Int)) (y : Int) : Option Int := (l.find? fun p => decide (p.1 = y)).map (·.2)
theorem lk_val {K : PySem.W.Frag} {B : Hp} {y : Int} : ∀ {l : List (Int × Int)} {r : List (Key × V)}, KvAll K B r (kvI l) → valV r (.inl y) = (lkI l y).map V.int
  | [], _, h => by cases h; rfl
  | p :: l, _, h => by
    unfold kvI at h
    rw [List.map_cons] at h
    cases h with
    | @cons k v _ r' _ h t =>
    cases h
    have ih := lk_val (y := y) t
    unfold valV lkI at ih ⊢
    rw [List.find?_cons, List.find?_cons]
    by_cases e : p.1 = y
    · have e1 : decide ((Sum.inl p.1 : Key) = .inl y) = true := decide_eq_true (by rw [e])
      have e2 : decide (p.1 = y) = true := decide_eq_true e
      rw [e1, e2]; rfl
    · have e1 : decide ((Sum.inl p.1 : Key) = .inl y) = false := decide_eq_false fun z => e (Sum.inl.inj z)
      have e2 : decide (p.1 = y) = false := decide_eq_false e
      rw [e1, e2]
      exact ih
theorem kvI_put {l : List (Int × Int)} {y v : Int} (h : lkI l y = none) : putD (kvI l) (.inl y) (.int v) = kvI (l ++ [(y, v)]) := by
  have an : ((kvI l).any fun kv => decide (kv.1 = (.inl y : Key))) = false := by
    rw [List.any_eq_false]
    intro q hq z
    unfold kvI at hq
    obtain ⟨p, hp, rfl⟩ := List.mem_map.mp hq
    have e : p.1 = y := by
      have : (Sum.inl p.1 : Key) = .inl y := by simpa using z
      exact Sum.inl.inj this
    unfold lkI at h
    have h' : (l.find? fun p => decide (p.1 = y)) = none := by
      cases q : l.find? fun p => decide (p.1 = y) with
      | none => rfl
      | some _ => rw [q] at h; cases h
    have := List.find?_eq_none.mp h' p hp
    simp [e] at this
  unfold putD
  rw [an, if_neg (by decide)]
  unfold kvI
  rw [List.map_append]; rfl
def optD : Option Int → PyData
  | some v => .int v
  | none => .none
section
variable {X : Cx} {ρ ρ' ρ1 ρ2 ρ3 : Env'} {a b c e : Expr} {es : List Expr} {pos p : Pos} {i : Nat} {l : List (Int × Int)} {y v : Int}
theorem dt_dkNotIn (hu : X.A.units + 100 < cLine) (ha : DE X ρ a (.d (.int y)) ρ1) (hb : DE X ρ1 b (.o i) ρ2) (hs : ρ2[i]? = some (.o (.dk (kvI l))) := by rfl) (hm : behindInMarks .NotIn b = false := by rfl) : DT X ρ (.Compare a [.NotIn] [b] pos) (!(lkI l y).isSome) ρ2 := fun F Z B H σ Q k q =>
  ⟨_, pt_cmp (pc_dnotin (by omega) pe_s pe_s) hm, ha F Z B H σ _ k fun v1 B1 H1 k1 x1 w1 => hb F Z B1 H1 σ _ k1 fun v2 B2 H2 k2 x2 w2 => by
    obtain ⟨v', as, g1, g2, _⟩ := k2.ob (gS_some hs)
    have w' : gV σ i = some v2 := w2
    rw [w'] at g1
    cases g1
    cases w1
    cases g2 with
    | @dk aa r _ h t =>
    have g := DGet.k (k := (.inl y : Key)) h
    rw [lk_val t] at g
    exact ⟨aa, _, rfl, g, _, rfl, by rw [Option.isSome_map]; exact q B2 H2 k2 (x1.trans x2)⟩⟩
theorem ds_dkPutI {y' : PyData} {pos' : Pos} (hu : X.A.units + 100 < cLine) (hz : l.length < 1000000) (hn : lkI l y = none) (hv : DE X ρ e (.d (.int v)) ρ1) (ho : DE X ρ1 a (.o i) ρ2) (hk : DE X ρ2 b (.d (.int y)) ρ3)
    (hs3 : ρ3[i]? = some (.o (.dk (kvI l))) := by rfl) (hs : swapsWith e (some (.Subscript a b pos')) pos.line X.env = pure false := by rfl) : DS X ρ (.Assign [.Subscript a b pos'] e pos) (.nx (ρ3.set i (.o (.dk (kvI (l ++ [(y, v)])))))) := fun F Z B H σ D kk q =>
  ⟨_, ps_dput (by omega) pe_s pe_s pe_s hs, hv F Z B H σ _ kk fun v1 B1 H1 k1 x1 w1 => ho F Z B1 H1 σ _ k1 fun o B2 H2 k2 x2 w2 => hk F Z B2 H2 σ _ k2 fun iv B3 H3 k3 x3 w3 => by
    obtain ⟨v', as, g1, g2, g3⟩ := k3.ob (gS_some hs3)
    have w' : gV σ i = some o := w2
    rw [w'] at g1
    cases g1
    have d0 := g2
    have dv : Dp X.K B1 v1 (.int v) := w1
    cases w3
    cases g2 with
    | @dk aa r _ h t =>
    have hl : r.length = l.length := by rw [t.length]; unfold kvI; rw [List.length_map]
    refine ⟨aa, _, rfl, DPut.k (k := .inl y) h (by rw [hl]; exact Nat.lt_of_lt_of_le hz (by decide)), ?_⟩
    refine q B3 _ σ (k3.turn (gS_some hs3) w' d0 (.dk upd_same ?_) fun c hc => by
      rw [upd_ne fun z => hc (by rw [z]; exact List.mem_singleton.mpr rfl)]) ((x1.trans x2).trans x3)
    rw [← kvI_put hn]
    exact t.put (dp_mono (x2.trans x3) dv)⟩
theorem de_dkGet {apos : Pos} (hu : X.A.units + 100 < cLine) (ho : DE X ρ a (.o i) ρ1) (he : DE X ρ1 e (.d (.int y)) ρ2) (hs0 : ρ1[i]? = some (.o (.dk (kvI l))) := by rfl) (hs : ρ2[i]? = some (.o (.dk (kvI l))) := by rfl) (m : M1 X a "get" apos e pos := by exact ⟨rfl, rfl, rfl, rfl⟩) :
    DE X ρ (.Call (.Attribute a "get" apos) [e] [] pos) (.d (optD (lkI l y))) ρ2 := fun F Z B H σ Q k q =>
  ⟨_, pe_dget1 (by omega) pe_s pe_s m, ho F Z B H σ _ k fun v1 B1 H1 k1 x1 w1 => by
    obtain ⟨v', as, g1, g2, _⟩ := k1.ob (gS_some hs0)
    have w' : gV σ i = some v1 := w1
    rw [w'] at g1
    cases g1
    cases g2 with
    | @dk aa r _ h t =>
    refine ⟨aa, rfl, .inl ⟨r, .inl h⟩, he F Z B1 H1 σ _ k1 fun v2 B2 H2 k2 x2 w2 => ?_⟩
    obtain ⟨v', as, g1, g2, _⟩ := k2.ob (gS_some hs)
    rw [w'] at g1
    cases g1
    cases w2
    cases g2 with
    | @dk _ r _ h t =>
    have g := DGet.k (k := (.inl y : Key)) h
    rw [lk_val t] at g
    refine ⟨_, g, ?_⟩
    cases e : lkI l y with
    | none => exact q .non B2 H2 k2 (x1.trans x2) (by rw [e]; exact .non)
    | some z => exact q (.int z) B2 H2 k2 (x1.trans x2) (by rw [e]; exact .int z)⟩
/-- {k: v}, a new dict of one -/
theorem df_one {j : Nat} (h1 : DE X ρ a (.d (.int y)) ρ1) (h2 : DE X ρ1 b (.d (.int v)) ρ2) : DF X ρ (.Dict [some a] [b] pos) (.dk (kvI [(y, v)])) ρ2 := fun F Z B H σ Q k q =>
  ⟨_, pe_disp (pps_cons pe_s pe_s pps_nil) rfl rfl (by intro z; cases z) (by simp), fun d hd => by
    obtain ⟨af, ab, az⟩ := k.fresh hd
    have kl := (k.loose hd (.dK [])).lock (k.laid hd (.dK [])) upd_same
    refine h1 _ _ B _ σ _ kl fun v1 B1 H1 k1 x1 w1 => h2 _ _ B1 H1 σ _ k1 fun v2 B2 H2 k2 x2 w2 => ?_
    cases w1; cases w2
    obtain ⟨k6, n6, h6⟩ := k2.unlock af az
    refine ⟨h6, [(.inl y, .int v)], rfl, by simp, ?_⟩
    exact q d B2 _ (k6.poke n6) (x1.trans x2) (n6.poke k6) (.dk upd_same (.cons (.int v) .nil))⟩
end
end G

set_option Elab.async false
set_option linter.all false
set_option maxRecDepth 100000
set_option maxHeartbeats 4000000
/- a, b, c = {..}, [..], d -/
namespace G
open PySem L2 PySem.Spec PyProof.Rows
section
variable {K : PySem.W.Frag} {F : Hp} {Z : Addr → Prop} {B H : Hp} {σ : L2.St} {ρ : Env'} {p q : Addr}
theorem New.setO (n : New K F Z B H σ ρ q) {i : Nat} {v : V} {as : List Addr} {b : Ob} (hl : σ.length = ρ.length) (h : ObAt K B H v as b) (hq : q ∉ as) : New K F Z B H (σ.set i (some v)) (ρ.set i (.o b)) q := by
  refine ⟨n.f, n.b, n.z, fun j b' v' as' g1 g2 g3 => ?_⟩
  rw [gS_set] at g1
  rw [gV_set, hl] at g2
  by_cases e : j = i ∧ i < ρ.length
  · rw [if_pos e] at g1 g2
    cases g1
    cases g2
    rw [ObAt.uni g3 h fun _ _ => rfl]
    exact hq
  · rw [if_neg e] at g1 g2
    exact n.o j b' v' as' g1 g2 g3
theorem New.less {o : HO} (n : New K (upd F p o) (fun a => Z a ∨ a = p) B H σ ρ q) : New K F Z B H σ ρ q ∧ q ≠ p := by
  have ne : q ≠ p := fun e => n.z (.inr e)
  refine ⟨⟨?_, n.b, fun z => n.z (.inl z), n.o⟩, ne⟩
  have f := n.f
  rw [upd_ne ne] at f
  exact f
end
section
variable {X : Cx} {ρ ρ' ρ1 ρ2 ρ3 : Env'} {a b c : Expr} {pos : Pos} {ys : List PyData} {d3 : PyData} {b1 : Ob}
theorem ds_asg3 {i j m : Nat} {x y z : Str} {s1 s2 : Sl} {px py pz pt pt2 : Pos} {kt k2} (hc : X.calm = true) (hN : X.N.Nodup) (h1 : DF X ρ a b1 ρ1) (h2 : DL X ρ1 b ys ρ2) (h3 : DE X ρ2 c (.d d3) ρ3) (hij : i ≠ j)
    (hr1 : ρ3[i]? = some s1 := by rfl) (hr2 : ρ3[j]? = some s2 := by rfl) (hi : X.N[i]? = some x := by rfl) (hj : X.N[j]? = some y := by rfl) (hm : X.N[m]? = some z := by rfl)
    (lx : Loc X.env.scope x := by first | exact Or.inl rfl | exact Or.inr rfl) (ly : Loc X.env.scope y := by first | exact Or.inl rfl | exact Or.inr rfl) (lz : Loc X.env.scope z := by first | exact Or.inl rfl | exact Or.inr rfl)
    (fx : X.fn x = true ∨ X.env.scope.names.lookup x = some .local := by first | exact .inl rfl | exact .inr rfl) (fy : X.fn y = true ∨ X.env.scope.names.lookup y = some .local := by first | exact .inl rfl | exact .inr rfl) (fz : X.fn z = true ∨ X.env.scope.names.lookup z = some .local := by first | exact .inl rfl | exact .inr rfl)
    (hs : swapsWithSole [.Tuple [.Name x px, .Name y py, .Name z pz] kt pt] (.Tuple [a, b, c] k2 pt2) pos.line X.env = pure false := by rfl) (hw : swappedStores [.Tuple [.Name x px, .Name y py, .Name z pz] kt pt] (.Tuple [a, b, c] k2 pt2) X.env = pure none := by rfl)
    (hs1 : starEach [a, b, c] X.env = (false, eval a X.env) :: starEach [b, c] X.env := by rfl) (hs2 : starEach [b, c] X.env = (false, eval b X.env) :: starEach [c] X.env := by rfl) (hs3 : starEach [c] X.env = (false, eval c X.env) :: starEach [] X.env := by rfl) :
    DS X ρ (.Assign [.Tuple [.Name x px, .Name y py, .Name z pz] kt pt] (.Tuple [a, b, c] k2 pt2) pos) (.nx (((ρ3.set i (.o b1)).set j (.o (.lst ys))).set m (.d d3))) := fun F Z B H σ D k q =>
  ⟨_, ps_asg (pe_tup (pa_cons pe_s (pa_cons pe_s (pa_cons pe_s pa_nil hs3) hs2) hs1)) (pg_tup (n := 3) hc (pgs_cons (pg_name hN hi lx fx) (pgs_cons (pg_name hN hj ly fy) (pgs_cons (pg_name hN hm lz fz) pgs_nil)))) hs hw,
    h1 F Z B H σ _ k fun p1 B1 H1 k1 x1 n1 ob1 => by
    obtain ⟨o1, ho1⟩ := ob1.live p1 List.mem_cons_self
    refine h2 _ _ B1 H1 σ _ (k1.lock n1 ho1) fun p2 us B2 H2 k2' x2 n2 hp2 t2 => ?_
    refine h3 _ _ B2 H2 σ _ (k2'.lock n2 hp2) fun v3 B3 H3 k3 x3 w3 => ?_
    obtain ⟨k4, n4, h4⟩ := k3.unlock n2.f n2.z
    obtain ⟨k5, n5, h5⟩ := k4.unlock n1.f n1.z
    obtain ⟨n6, ne⟩ := n4.less
    refine ⟨by show 3 ≤ sizeLine; decide, fun t ht => ?_⟩
    have o3 : ObAt X.K B3 H3 (.ref p1) [p1] b1 := ob1.mono (x2.trans x3) fun a ha => by rw [List.mem_singleton.mp ha, h5, ho1]
    have k7 := k5.loose ht (.tup [.ref p1, .ref p2, v3])
    have keep : ∀ b, b ≠ t → upd H3 t (.tup [.ref p1, .ref p2, v3]) b = H3 b := fun b hb => upd_ne hb
    have t1 : p1 ≠ t := fun e => by rw [← e, h5] at ht; cases ht
    have t2' : p2 ≠ t := fun e => by rw [← e, h4] at ht; cases ht
    have n7 : New X.K F Z B3 (upd H3 t (.tup [.ref p1, .ref p2, v3])) σ ρ3 p1 := n5.other (B' := B3) k5 (fun b hb ⟨o, ho⟩ => keep b fun e => by rw [e, ht] at ho; cases ho) ⟨_, h5⟩
    have n8 : New X.K F Z B3 (upd H3 t (.tup [.ref p1, .ref p2, v3])) σ ρ3 p2 := n6.other (B' := B3) k5 (fun b hb ⟨o, ho⟩ => keep b fun e => by rw [e, ht] at ho; cases ho) ⟨_, h4⟩
    have o7 : ObAt X.K B3 (upd H3 t (.tup [.ref p1, .ref p2, v3])) (.ref p1) [p1] b1 := o3.mono (Sub.refl B3) fun a ha => by rw [List.mem_singleton.mp ha]; exact keep p1 t1
    have o8 : ObAt X.K B3 (upd H3 t (.tup [.ref p1, .ref p2, v3])) (.ref p2) [p2] (.lst ys) := .lst ((keep p2 t2').trans h4) (dpAll_mono x3 t2)
    refine ⟨t, [.ref p1, .ref p2, v3], rfl, SqT.of upd_same, rfl, _, _, rfl, _, _, rfl, _, _, rfl, rfl, ?_⟩
    have i1 : i < ρ3.length := (List.getElem?_eq_some_iff.mp hr1).1
    have j1 : j < ρ3.length := (List.getElem?_eq_some_iff.mp hr2).1
    have k8 := k7.take n7 i1 o7
    have n9 := n8.setO (i := i) (v := .ref p1) k7.len o7 (by simpa using ne)
    have k9 := k8.take n9 (by rw [List.length_set]; exact j1) o8
    exact q B3 _ _ (k9.setD w3) ((x1.trans x2).trans x3)⟩
end
end G

set_option Elab.async false
set_option linter.all false
set_option maxRecDepth 100000
set_option maxHeartbeats 4000000
/- ends that are some environment; and, or as values; drawn webs are nets -/
namespace G
open PySem L2 PySem.Spec PyProof.Rows
/-- statements that go on in some environment of a kind -/
def DBx (X : Cx) (ρ : Env') (sts : List Stmt) (I : Env' → Prop) : Prop := ∃ ρ', I ρ' ∧ DB X ρ sts (.nx ρ')
section
variable {X : Cx} {ρ ρ1 ρ2 ρ' : Env'} {tg iter a b c e : Expr} {pos p : Pos} {st : Stmt} {rest sts body as : List Stmt} {o : O} {I : Env' → Prop} {xs : List PyData}
theorem bx_cons (h : DS X ρ st (.nx ρ1)) (t : DBx X ρ1 rest I) : DBx X ρ (st :: rest) I := by
  obtain ⟨ρ', i, t⟩ := t
  exact ⟨ρ', i, db_cons h t⟩
theorem bx_at (ρ2 : Env') (e : ρ = ρ2) (h : DBx X ρ2 sts I) : DBx X ρ sts I := e ▸ h
theorem bx_still {i : Nat} (t : DBx X (ρ.set i (.d (.list xs))) sts I) (hs : ρ[i]? = some (.o (.lst xs)) := by rfl) : DBx X ρ sts I := by
  obtain ⟨ρ', i', t⟩ := t
  exact ⟨ρ', i', db_still t hs⟩
theorem bx_nil (ρ2 : Env') (i : I ρ2) (w : Wk ρ ρ2) : DBx X ρ [] I := ⟨ρ2, i, db_end w⟩
/-- all turns of a loop keep a kind of environments -/
theorem db_forE (I : Env' → Prop) (hp : PassesOwn (model X.prog X.w) X.A X.env X.xe) (hc : X.calm = true) (hi : DI X ρ tg iter xs ρ1) (h0 : I ρ1)
    (turn : ∀ (i : Nat) (x : PyData) (ρa : Env'), xs[i]? = some x → I ρa → ∃ ρt js, DG X ρa tg x js ρt ∧ DBx X ρt body I)
    (go : ∀ ρ2, I ρ2 → DB X ρ2 rest o) (hs : ∀ x, foldedSetIterable iter X.env x = pure x := by intro _; rfl) : DB X ρ (.For tg iter body [] pos :: rest) o := by
  have step : ∀ (i : Nat) (ρa : {ρa : Env' // I ρa}), ∃ ρb : {ρb : Env' // I ρb}, ∀ x, xs[i]? = some x → ∃ ρt js, DG X ρa.1 tg x js ρt ∧ DB X ρt body (.nx ρb.1) := fun i ρa => by
    cases hx : xs[i]? with
    | none => exact ⟨ρa, fun x hx' => by cases hx'⟩
    | some x =>
      obtain ⟨ρt, js, h1, ρ', h2, h3⟩ := turn i x ρa.1 hx ρa.2
      exact ⟨⟨ρ', h2⟩, fun x' hx' => by cases hx'; exact ⟨ρt, js, h1, h3⟩⟩
  let ρs : Nat → {ρa : Env' // I ρa} := fun n => Nat.rec ⟨ρ1, h0⟩ (fun i ρa => Classical.choose (step i ρa)) n
  refine db_cons (ds_for hp hc hi (fun i => (ρs i).1) (.refl _) (fun i x hx => ?_) rfl hs) (go _ (ρs xs.length).2)
  exact Classical.choose_spec (step i (ρs i)) x hx
theorem bx_for (J : Env' → Prop) (hp : PassesOwn (model X.prog X.w) X.A X.env X.xe) (hc : X.calm = true) (hi : DI X ρ tg iter xs ρ1) (h0 : J ρ1)
    (turn : ∀ (i : Nat) (x : PyData) (ρa : Env'), xs[i]? = some x → J ρa → ∃ ρt js, DG X ρa tg x js ρt ∧ DBx X ρt body J)
    (go : ∀ ρ2, J ρ2 → DBx X ρ2 rest I) (hs : ∀ x, foldedSetIterable iter X.env x = pure x := by intro _; rfl) : DBx X ρ (.For tg iter body [] pos :: rest) I := by
  have step : ∀ (i : Nat) (ρa : {ρa : Env' // J ρa}), ∃ ρb : {ρb : Env' // J ρb}, ∀ x, xs[i]? = some x → ∃ ρt js, DG X ρa.1 tg x js ρt ∧ DB X ρt body (.nx ρb.1) := fun i ρa => by
    cases hx : xs[i]? with
    | none => exact ⟨ρa, fun x hx' => by cases hx'⟩
    | some x =>
      obtain ⟨ρt, js, h1, ρ', h2, h3⟩ := turn i x ρa.1 hx ρa.2
      exact ⟨⟨ρ', h2⟩, fun x' hx' => by cases hx'; exact ⟨ρt, js, h1, h3⟩⟩
  let ρs : Nat → {ρa : Env' // J ρa} := fun n => Nat.rec ⟨ρ1, h0⟩ (fun i ρa => Classical.choose (step i ρa)) n
  refine bx_cons (ds_for hp hc hi (fun i => (ρs i).1) (.refl _) (fun i x hx => ?_) rfl hs) (go _ (ρs xs.length).2)
  exact Classical.choose_spec (step i (ρs i)) x hx
theorem bx_ifF (h : DT X ρ c false ρ1) (t : DBx X ρ1 rest I) : DBx X ρ (.If c as [] pos :: rest) I := bx_cons (ds_ifF h db_nil) t
/-- a and b, as values -/
theorem de_and {x y : Bool} {es : List Expr} (h : DE X ρ a (.d (.bool x)) ρ1) (h1 : x = true → DE X ρ1 (.BoolOp .And (b :: es) pos) (.d (.bool y)) ρ2) (h2 : x = false → ρ2 = ρ1) : DE X ρ (.BoolOp .And (a :: b :: es) pos) (.d (.bool (x && y))) ρ2 := fun F Z B H σ Q k q =>
  ⟨_, pe_and pe_s pe_s, h F Z B H σ _ k fun v B1 H1 k1 x1 w1 => by
    have w : Dp X.K B1 v (.bool x) := w1
    cases w
    refine ⟨x, rfl, ?_⟩
    cases x with
    | true =>
      rw [if_pos rfl]
      exact h1 rfl F Z B1 H1 σ _ k1 fun v B2 H2 k2 x2 w2 => q v B2 H2 k2 (x1.trans x2) w2
    | false =>
      rw [if_neg (by decide)]
      obtain rfl := h2 rfl
      exact q _ B1 H1 k1 x1 (.bl _)⟩
theorem de_or {x y : Bool} {es : List Expr} (h : DE X ρ a (.d (.bool x)) ρ1) (h1 : x = false → DE X ρ1 (.BoolOp .Or (b :: es) pos) (.d (.bool y)) ρ2) (h2 : x = true → ρ2 = ρ1) : DE X ρ (.BoolOp .Or (a :: b :: es) pos) (.d (.bool (x || y))) ρ2 := fun F Z B H σ Q k q =>
  ⟨_, pe_or pe_s pe_s, h F Z B H σ _ k fun v B1 H1 k1 x1 w1 => by
    have w : Dp X.K B1 v (.bool x) := w1
    cases w
    refine ⟨x, rfl, ?_⟩
    cases x with
    | false =>
      rw [if_neg (by decide)]
      exact h1 rfl F Z B1 H1 σ _ k1 fun v B2 H2 k2 x2 w2 => q v B2 H2 k2 (x1.trans x2) w2
    | true =>
      rw [if_pos rfl]
      obtain rfl := h2 rfl
      exact q _ B1 H1 k1 x1 (.bl _)⟩
theorem de_one {op} {r : R} (h : DE X ρ a r ρ1) : DE X ρ (.BoolOp op [a] pos) r ρ1 := fun F Z B H σ Q k q => ⟨_, pe_one pe_s, h F Z B H σ Q k q⟩
theorem de_not {x : Bool} (h : DE X ρ a (.d (.bool x)) ρ1) : DE X ρ (.UnaryOp .Not a pos) (.d (.bool (!x))) ρ1 := fun F Z B H σ Q k q =>
  ⟨_, pe_not pe_s, h F Z B H σ _ k fun v B1 H1 k1 x1 w1 => by
    have w : Dp X.K B1 v (.bool x) := w1
    cases w
    exact ⟨x, rfl, q _ B1 H1 k1 x1 (.bl _)⟩⟩
theorem od_neB {K : PySem.W.Frag} {i j : Bool} : OpD K rNe ρ (.d (.bool i)) (.d (.bool j)) (.d (.bool (!decide (i = j)))) := fun F Z B H σ Q v1 v2 k w1 w2 q => by
  cases w1; cases w2
  have e : decide (V.bl i = V.bl j) = decide (i = j) := by simp
  exact ⟨rfl, by rw [e]; exact q _ B H k (Sub.refl B) (.bl _)⟩
theorem od_eqB {K : PySem.W.Frag} {i j : Bool} : OpD K rEq ρ (.d (.bool i)) (.d (.bool j)) (.d (.bool (decide (i = j)))) := fun F Z B H σ Q v1 v2 k w1 w2 q => by
  cases w1; cases w2
  have e : decide (V.bl i = V.bl j) = decide (i = j) := by simp
  exact ⟨rfl, by rw [e]; exact q _ B H k (Sub.refl B) (.bl _)⟩
theorem dt_neB {i j : Bool} (ha : DE X ρ a (.d (.bool i)) ρ1) (hb : DE X ρ1 b (.d (.bool j)) ρ2) : DT X ρ (.Compare a [.NotEq] [b] pos) (!decide (i = j)) ρ2 := dt_cmp op_ne od_neB (nomark b) ha hb
theorem de_repB {x : Bool} (hgd : X.A.guards = some []) (hu : X.A.units + 100 < cLine) (hm : X.mg "repr" = none) (h : DE X ρ e (.d (.bool x)) ρ1) (hg : Gl X "repr" := by rfl) (he : starEach [e] X.env = (false, eval e X.env) :: starEach [] X.env := by rfl) (hpl : (backTo pos (starEach [] X.env)).any (·.1) = false := by rfl) :
    DE X ρ (.Call (.Name "repr" p) [e] [] pos) (.d (.str (PyData.bool x).shown)) ρ1 := by
  refine de_repr hgd hu (by simp [PyData.showable]) (by simp [PyData.depth]) ?_ hm h hg he hpl
  have all : ∀ b : Bool, (PyData.bool b).shown.length ≤ 5 := by decide +kernel
  exact Nat.le_trans (all x) (by decide)
end
end G

set_option Elab.async false
set_option linter.all false
set_option maxRecDepth 100000
set_option maxHeartbeats 4000000
/- more rules: for x in dict(..), t.count(i), max(list), min(a, b), is not -/
namespace G
open PySem L2 PySem.Spec PyProof.Rows
/-! ### for x in dict(..), the dict being new -/
def Itks (ks : List Key) : It := ⟨fun i _ => i < ks.length, fun i H x H' => H' = H ∧ ∃ k, ks[i]? = some k ∧ x = kV k, fun i _ => i = ks.length⟩
theorem turn_keysF {P : Program} {w : World} {K : PySem.W.Frag} {tg : Expr} {d it : Addr} {ep : Nat} {kvs : List (Key × Value)} (hne : d ≠ it) : Turn P w K tg (Itks (kvs.map (·.1))) [it, d] it (fun i h => h.IsKeyIter it d i kvs.length ep ∧ h.DictAt (mixKind P w) d kvs ep) where
  mem := by simp
  obj := fun i h st b hb => by
    rcases List.mem_cons.mp hb with e | e
    · subst e
      obtain ⟨oi, e, c, dd⟩ := st.1
      exact ⟨oi, e, fun v z => by rw [dd] at z; cases z⟩
    · rw [List.mem_singleton.mp e]
      obtain ⟨o, es, e, _, dd, _⟩ := st.2
      exact ⟨o, e, fun v z => by rw [dd] at z; cases z⟩
  keep := fun i h h' st k => by
    obtain ⟨⟨o, ho, r⟩, o2, es, ho2, r2⟩ := st
    exact ⟨⟨o, k it (by simp) o ho, r⟩, o2, es, k d (by simp) o2 ho2, r2⟩
  item := by
    intro X hP hw hK hc i pins s σ H E I hf st hg
    subst hP hw hK
    obtain ⟨f0, f1, f2, f3, f4, f5⟩ := hf it (by simp)
    have hi : i < kvs.length := by
      have z : i < (kvs.map (·.1)).length := hg
      rwa [List.length_map] at z
    obtain ⟨⟨k, v⟩, hkv⟩ : ∃ p, kvs[i]? = some p := ⟨kvs[i], List.getElem?_eq_getElem hi⟩
    refine wpAny_pyNext_dict_item st.1 st.2 hkv fun key h' hkey st' sb => ?_
    have I1 : Inv X pins σ H { s with heap := h' } := I.turned (t' := s.toks) (fun b ob hb e => (sb.2 b hb).trans e) f0 f1 f3 f4 f5
    obtain ⟨oi, e, c, dd⟩ := id st'
    refine ⟨key, rfl, go_of (s := { s with heap := h' }) e c dd (by decide) ⟨kV k, H, I1, relV_key (show keyIs k key = true from hkey), ⟨rfl, k, by rw [List.getElem?_map, hkv]; rfl, rfl⟩, ⟨st', ?_⟩, fun b hb => (hf b hb).1⟩⟩
    obtain ⟨o, es, ho, r⟩ := st.2
    exact ⟨o, es, (sb.2 d hne).trans ho, r⟩
  done := by
    intro X hP hw hK hc i pins s σ H E I hf st hg
    subst hP hw hK
    obtain ⟨f0, f1, f2, f3, f4, f5⟩ := hf it (by simp)
    have hi : i = kvs.length := by
      have z : i = (kvs.map (·.1)).length := hg
      rwa [List.length_map] at z
    obtain ⟨o, es, ho, hx, hdt, hk, hp, hn⟩ := id st.2
    have hsz : es.size = kvs.length := by
      have := hp.length
      rwa [Array.length_toList] at this
    exact next_key_end (I.ok.hd hc) st.1 ho hdt hsz (Nat.le_of_eq hi.symm) fun h' eb => ⟨rfl, I.turned (t' := s.toks) (fun b ob hb e => eb b ob hb e) f0 f1 f3 f4 f5⟩
  self := fun A i s Q E st h => wpAny_pyIter_keyiter st.1 h
theorem kv_keys : ∀ {r : List (Key × V)} {s : List (Key × Value)}, KV r s → s.map (·.1) = r.map (·.1)
  | [], _, h => by cases h; rfl
  | p :: r, _, h => by
    cases h with
    | cons h t => rw [List.map_cons, List.map_cons, kv_keys t, h.1]
def iDictF (K : PySem.W.Frag) (ta : TA) : TI := fun σ H R => ta σ H fun vs H1 => ∃ (a : Addr) (ps : List Addr) (kvs : List (Key × V)), vs = [.ref a] ∧ SqL K H1 a (ps.map V.ref) ∧ Paired (fun p kv => SqT K H1 p [kV kv.1, kv.2]) ps kvs ∧ R (Itks ((mergeK [] kvs).map (·.1))) H1
section
variable {X : Cx} {tg e : Expr} {ta : TA} {p pos : Pos}
theorem pi_dictF (hc : X.calm = true) (hg : Gl X "dict") (hm : X.mg "dict" = none) (ha : PA X [e] ta) (hs : starEach [e] X.env = [(false, eval e X.env)] := by rfl) : PI X tg (.Call (.Name "dict" p) [e] [] pos) (iDictF X.K ta) := by
  refine ⟨fun pins s σ H R I h => ?_⟩
  refine Call_ (ld_blt I hg hm PyProof.Rows.boot_dict (PyProof.Rows.callWith_type1 (thn (ha.run pos pins s σ H _ I h) fun us s1 ⟨vs, H1, I1, r1, q1⟩ => ?_) hs rfl))
  obtain ⟨a, ps, kvs, ex, hq, hp, q⟩ := q1
  subst ex
  obtain ⟨u, eu, rx⟩ := vals1 r1
  subst eu
  cases rx
  obtain ⟨its, rv, pl, hz⟩ := I1.list hq
  have ei := refs_at rv
  subst ei
  rw [List.length_map] at hz
  obtain ⟨prs, rel, hl, hpr⟩ := pairs_of I1 hp
  obtain ⟨o, n, ho, hcl, hd, hdat⟩ := pl
  refine call_dict_pairs (prs := prs) (I1.ok.hd hc) ho hcl hd hdat (by simp [hl]) (by rw [hl]; exact hz) (fun j q' e => ?_) fun h' tk hd' k => ?_
  · obtain ⟨b, u, e1, e2, e3⟩ := hpr j q' e
    exact ⟨b, u, by simp [e1], e2, e3⟩
  · have hm : (s1.heap.objs.size == sysModules) = false := beq_eq_false_iff_ne.mpr (Nat.ne_of_gt I1.big)
    have ek : (merged [] prs).map (·.1) = (mergeK [] kvs).map (·.1) := kv_keys (KV.merge rel .nil)
    obtain ⟨ep, dat⟩ := hd'.dictAt
    obtain ⟨od, es, hod, hxd, hdd, hk, hpp, hnn⟩ := id dat
    have hsz : es.size = (merged [] prs).length := by
      have := hpp.length
      rwa [Array.length_toList] at this
    have lt := dat.lt_size
    refine iter_keys (s := { s1 with heap := h', toks := tk }) hm hod hxd hdd ?_
    refine ⟨h'.objs.size, [h'.objs.size, s1.heap.objs.size], _, Itks ((mergeK [] kvs).map (·.1)), H1, rfl, (I1.kept (t' := tk) k).kept (t' := tk) fun b ob e => Heap.get?_push_of_some _ e, ek ▸ turn_keysF (ep := ep) (Nat.ne_of_lt lt), ⟨⟨_, Heap.get?_push_size _ rfl, rfl, by rw [hsz]; rfl⟩, dat.push _⟩, fun b hb => ?_, q⟩
    have hle : s1.heap.objs.size ≤ b := by
      rcases List.mem_cons.mp hb with z | z
      · rw [z]; exact Nat.le_of_lt lt
      · rw [List.mem_singleton.mp z]; exact Nat.le_refl _
    exact I1.fpOk hle (I1.hok.fresh hle)
theorem walk_ks {ks : List Key} : Walk (Itks ks) ks.length (fun _ => True) (fun i H x H' => H' = H ∧ ∃ k, ks[i]? = some k ∧ x = kV k) :=
  ⟨fun i _ hi _ => hi, fun _ _ => rfl, fun _ _ _ _ _ _ y => y⟩
end
section
variable {X : Cx} {ρ ρ1 ρ2 : Env'} {tg a b e : Expr} {pos p p2 : Pos} {kvs : List (Int × PyData)}
/-- for x in dict(e), e a list of (number, value) -/
theorem di_dictI (hc : X.calm = true) (h : DLd X ρ e (kvs.map pairI) ρ1) (md : X.mg "dict" = none) (hg : Gl X "dict" := by rfl) (hs : starEach [e] X.env = [(false, eval e X.env)] := by rfl) (he : starEach [e] X.env = (false, eval e X.env) :: starEach [] X.env := by rfl) :
    DI X ρ tg (.Call (.Name "dict" p) [e] [] pos) (((kvs.map (·.1)).foldl addI []).map .int) ρ1 := fun F Z B H σ Q k q =>
  ⟨_, pi_dictF hc hg md (pa_cons pe_s pa_nil he) hs, h F Z B H σ _ k fun a us B1 H1 k1 x1 hs t => by
    obtain ⟨ps, rs, e1, e2, e3⟩ := pairsI t
    subst e1
    have mono : ∀ {l : List Addr} {m : List (Key × V)}, Paired (fun p (kv : Key × V) => SqT X.K B1 p [kV kv.1, kv.2]) l m → Paired (fun p (kv : Key × V) => SqT X.K H1 p [kV kv.1, kv.2]) l m := by
      intro l m r
      induction r with
      | nil => exact .nil
      | cons h _ ih => exact .cons (h.imp k1.exB.rd id) ih
    have ek : (mergeK [] (rs.map fun p => (Sum.inl p.1, p.2))).map (·.1) = ((rs.map (·.1)).foldl addI []).map Sum.inl := keys_merge (ks := []) rfl
    rw [e2] at ek
    refine ⟨a, ps, _, rfl, hs, mono e3, ?_⟩
    rw [ek]
    refine q _ _ _ _ B1 H1 k1 x1 (by simp) walk_ks (fun _ _ _ _ => trivial) ?_
    rintro F2 Z2 B2 H2 σ2 ρ2 i v H3 k2 y2 hi ⟨rfl, kk, hk, rfl⟩
    rw [List.getElem?_map] at hk
    cases hj : ((kvs.map (·.1)).foldl addI [])[i]? with
    | none => rw [hj] at hk; cases hk
    | some z =>
      rw [hj] at hk
      have hk' : (Sum.inl z : Key) = kk := Option.some.inj hk
      subst hk'
      exact ⟨B2, .int z, by rw [List.getElem?_map, hj]; rfl, k2, Sub.refl B2, .int z⟩⟩
end
end G

set_option Elab.async false
set_option linter.all false
set_option maxRecDepth 100000
set_option maxHeartbeats 4000000
/- methods of tuples: t.count(x), t.index(x); l.index(x) -/
namespace G
open PySem L2 PySem.Spec PyProof.Rows
def tBMN (r : V → List V → Hp → VK → Prop) (to : TE) (t : TA) : TE := fun σ H Q => to σ H fun x H1 => (∃ p o u, x = .ref p ∧ H1 p = some (.frz o u) ∧ o.dict = none ∧ o.cls = .type "tuple") ∧ t σ H1 fun xs H2 => r x xs H2 Q
section
variable {X : Cx} {o e : Expr} {es : List Expr} {to : TE} {t : TA} {name : Str} {apos cpos : Pos} {id : String} {r : V → List V → Hp → VK → Prop}
/-- t.name(..), t a tuple that keeps no dict -/
theorem pe_bmN (slot : Slot "tuple" name id) (hty : typeOf (.builtin id) = pure (.type "method_descriptor")) (hm : MtR X id r) (ho : PE X o to) (ha : PA X (e :: es) t)
    (hbase : attributeBase o name X.env (eval o X.env) = eval o X.env := by rfl)
    (hfew : ((backTo cpos (starEach (e :: es) X.env)).all (fun x => !x.1) && (backToKw cpos (keywordEach [] X.env)).all (fun x => x.1.isSome) && decide ((e :: es).length + ([] : List Keyword).length + (if ([] : List Keyword).isEmpty then 0 else 1) < 30)) = true := by rfl)
    (hline : (apos.endLine == cpos.line) = true := by rfl) (hs : starEach (e :: es) X.env = (false, eval e X.env) :: starEach es X.env := by rfl) (hplain : (backTo cpos (starEach es X.env)).any (·.1) = false := by rfl) :
    PE X (.Call (.Attribute o name apos) (e :: es) [] cpos) (tBMN r to t) := by
  refine ⟨fun pins s σ H Q I h => wpAny_Call_method_late hbase hfew hline rfl (thn (ho.run pins s σ H _ I h) fun v s1 ⟨x, H1, I1, r1, ⟨p, ob, u, ex, hp, hd, hc⟩, q1⟩ => ?_)⟩
  subst ex
  obtain rfl : v = .ref p := r1
  obtain ⟨at', _⟩ := I1.hok p _ hp
  refine ⟨"tuple", id, PySem.F.plainAttrs_tuple, slot, hty, ⟨ob, at', hc⟩, fun a e => by cases e; exact ⟨ob, at', hd⟩, ?_⟩
  have hA := ha.run cpos pins s1 σ H1 _ I1 q1
  rw [hs] at hA ⊢
  refine Calls.callWith_builtin (by show (false || (backTo cpos (starEach es X.env)).any (·.1)) = false; rw [hplain] <;> rfl) (Calls.evalArgs_plain ?_)
  exact thn hA fun us s2 ⟨vs, H2, I2, r2, q2⟩ => hm pins s2 σ H2 (.ref p) vs (.ref p) us Q I2 (show RelV (.ref p) (.ref p) from rfl) r2 q2
end
section
variable {X : Cx}
def rCntD (K : PySem.W.Frag) : V → List V → Hp → VK → Prop := fun x xs H Q => ∃ (a : Addr) (y : V) (d : PyData) (ds : List PyData), x = .ref a ∧ xs = [y] ∧ L2.Dp K H (.ref a) (.tuple ds) ∧ L2.Dp K H y d ∧ SeqAt.shaped (.tuple ds) = true ∧ SeqAt.shaped d = true ∧ Q (.int ((ds.countP fun z => PyData.eqv z d : Nat) : Int)) H
theorem mt_cntD (hu : X.A.units + 65 < cLine) : MtR X "tuple.count" (rCntD X.K) := by
  rintro pins s σ H x xs v us Q I rx rxs ⟨a, y, d, ds, rfl, rfl, hl, hy, sl, sd, q⟩
  cases rx
  obtain ⟨uy, rfl, ry⟩ := rxs.one
  obtain ⟨bs, r1⟩ := Dp.reads I d y uy hy ry
  have hxs : PyData.canLayAll0 ds = true := SeqAt.canLay_of_shaped sl
  have room : X.A.units + 1 + min (PyData.depthAll ds) d.depth < cLine := room_in_shaped sd hu
  cases hl with
  | tup hs ha =>
    obtain ⟨its, rv, ⟨⟨cls, dd, data, sls⟩, ho, hc, n, hdt⟩, hlen⟩ := I.tuple hs
    simp only at hc hdt
    subst hc hdt
    obtain ⟨as, h4⟩ := Dp.readsAll I ds _ its ha rv
    have em : its.map (SeqAt.readOf s.heap) = ds := SeqAt.readsAll_map ds its as hxs h4
    refine call_meets PySem.F.slot_tuple_count ⟨_, ho, rfl⟩ PySem.F.entry_tuple_count (PySem.F.args_tuple_count_2 _ _)
      (SeqAt.tuple_countAt a its.toArray n dd sls uy fun u => PyData.eqv (SeqAt.readOf s.heap u) d) ⟨ho, SeqAt.items_eqAt (vs := its.toArray) (show ReadsAll s.heap its.toArray.toList ds as from h4) r1 hxs (SeqAt.canLay_of_shaped sd) room, ?_⟩
    have ec : (its.toArray.toList.countP fun u => PyData.eqv (SeqAt.readOf s.heap u) d) = ds.countP fun z => PyData.eqv z d := by
      rw [← em, List.countP_map]; rfl
    rw [ec]
    exact ⟨.int _, H, I.tok _, ⟨_, rfl⟩, q⟩
def rIdxI (K : PySem.W.Frag) : V → List V → Hp → VK → Prop := fun x xs H Q => ∃ (a : Addr) (ns : List Int) (k : Int), x = V.ref a ∧ xs = [.int k] ∧ SqT K H a (ns.map V.int) ∧ k ∈ ns ∧ Q (.int (ns.idxOf k : Nat)) H
theorem mt_idxI : MtR X "tuple.index" (rIdxI X.K) := by
  rintro pins s σ H x xs v us Q I rx rxs ⟨a, ns, k, rfl, rfl, hl, hk, q⟩
  cases rx
  obtain ⟨u, rfl, ru⟩ := rxs.one
  obtain ⟨t, rfl⟩ := ru
  obtain ⟨its, rv, pt, hlen⟩ := I.tuple hl
  exact PySem.SeqAt.tuple_index_ints (vs := its) (show s.heap.IsTuple a its.toArray from pt) (ints_of_vals rv) hk ⟨.int _, H, I.tok _, ⟨_, rfl⟩, q⟩
end
section
variable {X : Cx} {ρ ρ1 ρ2 : Env'} {a e : Expr} {p apos : Pos} {ds : List PyData} {d : PyData}
/-- t.count(x) -/
theorem de_count (hu : X.A.units + 65 < cLine) (hx : SeqAt.shaped (.tuple ds) = true) (hy : SeqAt.shaped d = true) (h0 : DE X ρ a (.d (.tuple ds)) ρ1) (h : DE X ρ1 e (.d d) ρ2) (hbase : attributeBase a "count" X.env (eval a X.env) = eval a X.env := by rfl)
    (hfew : ((backTo p (starEach [e] X.env)).all (fun x => !x.1) && (backToKw p (keywordEach [] X.env)).all (fun x => x.1.isSome) && decide ([e].length + ([] : List Keyword).length + (if ([] : List Keyword).isEmpty then 0 else 1) < 30)) = true := by rfl)
    (hline : (apos.endLine == p.line) = true := by rfl) (he : starEach [e] X.env = (false, eval e X.env) :: starEach [] X.env := by rfl) (hpl : (backTo p (starEach [] X.env)).any (·.1) = false := by rfl) :
    DE X ρ (.Call (.Attribute a "count" apos) [e] [] p) (.d (.int ((ds.countP fun z => PyData.eqv z d : Nat) : Int))) ρ2 := fun F Z B H σ Q k q =>
  ⟨_, pe_bmN PySem.F.slot_tuple_count PySem.F.type_tuple_count (mt_cntD hu) pe_s (pa_cons pe_s pa_nil he) hbase hfew hline he hpl, h0 F Z B H σ _ k fun v B1 H1 k1 x1 w1 => by
    have w : Dp X.K B1 v (.tuple ds) := w1
    have w' := w
    cases w' with
    | @tup b _ _ _ n _ =>
    obtain ⟨o, u, e1, e2, e3⟩ := n.mono k1.exB
    refine ⟨⟨b, o, u, rfl, e1, e2, e3⟩, h F Z B1 H1 σ _ k1 fun y B2 H2 k2 x2 w2 => ?_⟩
    exact ⟨b, y, d, ds, rfl, rfl, (dp_mono (x2.trans k2.exB) w).l2 (nd_sh hx), (dp_mono k2.exB (show Dp X.K B2 y d from w2)).l2 (nd_sh hy), hx, hy, q _ B2 H2 k2 (x1.trans x2) (.int _)⟩⟩
/-- t.index(i), whole numbers -/
theorem de_indexT {ns : List Int} {z : Int} (hz : z ∈ ns) (h0 : DE X ρ a (.d (.tuple (ns.map .int))) ρ1) (h : DE X ρ1 e (.d (.int z)) ρ2) (hbase : attributeBase a "index" X.env (eval a X.env) = eval a X.env := by rfl)
    (hfew : ((backTo p (starEach [e] X.env)).all (fun x => !x.1) && (backToKw p (keywordEach [] X.env)).all (fun x => x.1.isSome) && decide ([e].length + ([] : List Keyword).length + (if ([] : List Keyword).isEmpty then 0 else 1) < 30)) = true := by rfl)
    (hline : (apos.endLine == p.line) = true := by rfl) (he : starEach [e] X.env = (false, eval e X.env) :: starEach [] X.env := by rfl) (hpl : (backTo p (starEach [] X.env)).any (·.1) = false := by rfl) :
    DE X ρ (.Call (.Attribute a "index" apos) [e] [] p) (.d (.int (ns.idxOf z : Nat))) ρ2 := fun F Z B H σ Q k q =>
  ⟨_, pe_bmN PySem.F.slot_tuple_index PySem.F.type_tuple_index mt_idxI pe_s (pa_cons pe_s pa_nil he) hbase hfew hline he hpl, h0 F Z B H σ _ k fun v B1 H1 k1 x1 w1 => by
    have w : Dp X.K B1 v (.tuple (ns.map .int)) := w1
    cases w with
    | @tup b us _ s n t =>
    obtain ⟨o, u, e1, e2, e3⟩ := n.mono k1.exB
    have eu := DpAll.ints t
    subst eu
    refine ⟨⟨b, o, u, rfl, e1, e2, e3⟩, h F Z B1 H1 σ _ k1 fun y B2 H2 k2 x2 w2 => ?_⟩
    have wy : Dp X.K B2 y (.int z) := w2
    cases wy
    exact ⟨b, ns, z, rfl, rfl, s.imp (x2.trans k2.exB).rd id, hz, q _ B2 H2 k2 (x1.trans x2) (.int _)⟩⟩
/-- l.index(x), l a list of data -/
theorem de_indexL {j : Nat} {z : PyData} (hu : X.A.units + 65 < cLine) (hx : SeqAt.shaped (.list ds) = true) (hy : SeqAt.shaped d = true) (hz : ds[j]? = some z) (hj : PyData.eqv z d = true) (hno : ∀ (m : Nat) (z' : PyData), m < j → ds[m]? = some z' → PyData.eqv z' d = false) (h0 : DE X ρ a (.d (.list ds)) ρ1) (h : DE X ρ1 e (.d d) ρ2) (hbase : attributeBase a "index" X.env (eval a X.env) = eval a X.env := by rfl)
    (hfew : ((backTo p (starEach [e] X.env)).all (fun x => !x.1) && (backToKw p (keywordEach [] X.env)).all (fun x => x.1.isSome) && decide ([e].length + ([] : List Keyword).length + (if ([] : List Keyword).isEmpty then 0 else 1) < 30)) = true := by rfl)
    (hline : (apos.endLine == p.line) = true := by rfl) (he : starEach [e] X.env = (false, eval e X.env) :: starEach [] X.env := by rfl) (hpl : (backTo p (starEach [] X.env)).any (·.1) = false := by rfl) :
    DE X ρ (.Call (.Attribute a "index" apos) [e] [] p) (.d (.int (j : Nat))) ρ2 := fun F Z B H σ Q k q =>
  ⟨_, pe_bm PySem.F.plainAttrs_list PySem.F.slot_list_index PySem.F.type_list_index (mt_indexD hu) pe_s (pa_cons pe_s pa_nil he) hbase hfew hline he hpl, h0 F Z B H σ _ k fun v B1 H1 k1 x1 w1 => by
    have w : Dp X.K B1 v (.list ds) := w1
    have w' := w
    cases w' with
    | @lst b us _ s _ =>
    refine ⟨.inl ⟨rfl, us, s.imp k1.exB.rd id⟩, h F Z B1 H1 σ _ k1 fun y B2 H2 k2 x2 w2 => ?_⟩
    exact ⟨b, y, d, ds, j, z, rfl, rfl, (dp_mono (x2.trans k2.exB) w).l2 (nd_sh hx), (dp_mono k2.exB (show Dp X.K B2 y d from w2)).l2 (nd_sh hy), hx, hy, hz, hj, hno, q _ B2 H2 k2 (x1.trans x2) (.int _)⟩⟩
end
/-! ### max(list), min(a, b) -/
section
variable {X : Cx} {ρ ρ1 ρ2 : Env'} {a b e : Expr} {p pos : Pos}
theorem de_maxL {ns : List Int} {m : Int} (hc : X.calm = true) (hm : m ∈ ns) (hy : ∀ y ∈ ns, y ≤ m) (h : DLd X ρ e (ns.map .int) ρ1) (hn : X.mg "max" = none) (hg : Gl X "max" := by rfl) (he : starEach [e] X.env = (false, eval e X.env) :: starEach [] X.env := by rfl) (hpl : (backTo pos (starEach [] X.env)).any (·.1) = false := by rfl) :
    DE X ρ (.Call (.Name "max" p) [e] [] pos) (.d (.int m)) ρ1 := fun F Z B H σ Q k q =>
  ⟨_, pe_callB (cr_max hc) hg hn PyProof.Rows.boot_max (pa_cons pe_s pa_nil he) (by decide) (by decide) he hpl, h F Z B H σ _ k fun a us B1 H1 k1 x1 hs t => by
    have e := DpAll.ints t
    subst e
    refine ⟨a, ns, rfl, hs, List.length_pos_of_mem hm, fun m' h1 h2 => ?_⟩
    obtain rfl : m' = m := Int.le_antisymm (hy _ h1) (h2 _ hm)
    exact q _ B1 H1 k1 x1 (.int _)⟩
theorem de_min2 {i j : Int} (hc : X.calm = true) (hm : X.mg "min" = none) (h : DA X ρ [a, b] [.int i, .int j] ρ1) (hg : Gl X "min" := by rfl) (he : starEach [a, b] X.env = (false, eval a X.env) :: starEach [b] X.env := by rfl)
    (hpl : (backTo pos (starEach [b] X.env)).any (·.1) = false := by rfl) : DE X ρ (.Call (.Name "min" p) [a, b] [] pos) (.d (.int (if j < i then j else i))) ρ1 := fun F Z B H σ Q k q =>
  ⟨_, pe_callB (call_min2 hc) hg hm PyProof.Rows.boot_min pa_s (by decide) (by decide) he hpl, h F Z B H σ _ k fun vs B1 H1 k1 x1 w => by
    cases w with
    | cons w1 w =>
      cases w with
      | cons w2 w =>
        cases w
        cases w1
        cases w2
        exact ⟨i, j, rfl, q _ B1 H1 k1 x1 (.int _)⟩⟩
end
end G

set_option Elab.async false
set_option linter.all false
set_option maxRecDepth 100000
set_option maxHeartbeats 4000000
/- isinstance, chains of comparisons, all, enumerate(list) -/
namespace G
open PySem L2 PySem.Spec PyProof.Rows
/-! ### isinstance -/
def tyD : PyData → String
  | .none => "NoneType"
  | .bool _ => "bool"
  | .int _ => "int"
  | .str _ => "str"
  | .list _ => "list"
  | .tuple _ => "tuple"
  | .dict _ => "dict"
/-- types, of dicts with tuple keys besides -/
def TyY (K : PySem.W.Frag) (H : Hp) (v : V) (t : Value) : Prop := TyX K H v t ∨ ∃ a w xs, v = .ref a ∧ H a = some (dnHO w a xs) ∧ t = .type "dict"
def rIsiY (K : PySem.W.Frag) : List V → Hp → VK → Prop := fun xs H Q => ∃ (x c : V) (t u : Value) (b : Bool), xs = [x, c] ∧ ClsV c u ∧ TyY K H x t ∧ PySem.W.kitOne K t u = some b ∧ Q (.bl b) H
theorem call_isiY {X : Cx} : CallR X (.builtin "isinstance") (rIsiY X.K) := by
  intro pins s σ H xs us Q I r h
  obtain ⟨x, c, t, u, b, rfl, k, ty, e, q⟩ := h
  obtain ⟨u1, u2, rfl, r1, r2⟩ := vals2 r
  have e2 := k.eq r2
  subst e2
  rcases ty with ty | ⟨a, w, ks, rfl, hd, rfl⟩
  · obtain ⟨P, Z, p, hx⟩ := kit_of I r1 ty
    exact PySem.W.kia_one Z I.kIn p e hx fun tk => ⟨.bl b, H, I.tok tk, rfl, q⟩
  · cases (show u1 = Value.ref a from r1)
    obtain ⟨⟨o, es, ep, g1, g2, g3, g4⟩, _, _⟩ := I.hok a _ hd
    exact PySem.W.kia_one PySem.W.kitx_dict I.kIn ⟨o, g1, g2.1⟩ e (fun z => nomatch z) fun tk => ⟨.bl b, H, I.tok tk, rfl, q⟩
theorem tyx_of {K : PySem.W.Frag} {B H : Hp} (x : Sub B H) {v : V} {d : PyData} (w : Dp K B v d) : TyY K H v (.type (tyD d)) := by
  cases w with
  | non => exact .inl <| .base .non
  | bl b => exact .inl <| .base (.bl b)
  | int i => exact .inl <| .base (.int i)
  | str z => exact .inl <| .base (.str z)
  | lst s r =>
    rcases s with (s | ⟨o, s⟩) | ⟨o, _, _, s, c, _⟩
    · exact .inl <| .base (.lst (x _ _ s))
    · exact .inl <| .base (.frz (x _ _ s))
    · exact .inl <| .kList s c
  | tup s n r =>
    rcases s with (s | ⟨o, s⟩) | ⟨o, _, _, s, c, _⟩
    · exact .inl <| .base (.tup (x _ _ s))
    · exact .inl <| .fTuple (x _ _ s)
    · exact .inl <| .kTuple s c
  | dct h hk t => exact .inl <| .fDict (x _ _ h)
  | dnn h _ _ _ _ _ _ _ _ _ => exact .inr ⟨_, _, _, rfl, x _ _ h, rfl⟩
section
variable {X : Cx} {ρ ρ1 ρ2 ρ3 : Env'} {a b c e : Expr} {p q pos : Pos} {d : PyData} {n : String} {x : Str} {r : Bool}
theorem de_isi (hr : kitB (tyD d) n = some r) (hv : bootBuiltins x = some (.type n)) (h : DE X ρ e (.d d) ρ1) (hm : X.mg "isinstance" = none) (hx : X.mg x = none) (hg : Gl X "isinstance" := by rfl) (hgx : Gl X x := by rfl)
    (hn : x ≠ "__name__" := by decide) (hd : (x == ("__debug__" : Str)) = false := by decide) (he : starEach [e, .Name x q] X.env = (false, eval e X.env) :: starEach [.Name x q] X.env := by rfl) (he2 : starEach [.Name x q] X.env = (false, eval (.Name x q) X.env) :: starEach [] X.env := by rfl)
    (hpl : (backTo pos (starEach [.Name x q] X.env)).any (·.1) = false := by rfl) : DE X ρ (.Call (.Name "isinstance" p) [e, .Name x q] [] pos) (.d (.bool r)) ρ1 := fun F Z B H σ Q k w =>
  ⟨_, pe_callB call_isiY hg hm PyProof.Rows.boot_isinstance (pa_cons pe_s (pa_cons (pe_bltn hgx hx hv (show RelV (.ty n) (.type n) from rfl) hn hd) pa_nil he2) he) (by decide) (by decide) he hpl, h F Z B H σ _ k fun v B1 H1 k1 x1 w1 =>
    ⟨v, .ty n, _, _, r, rfl, .ty n, tyx_of k1.exB w1, kit_ty hr, w _ B1 H1 k1 x1 (.bl _)⟩⟩
/-- a <= b < c, whole numbers -/
theorem de_between {i j k : Int} (ha : DE X ρ a (.d (.int i)) ρ1) (hb : DE X ρ1 b (.d (.int j)) ρ2) (hc : DE X ρ2 c (.d (.int k)) ρ2) (hm : lastMarks [.LtE, .Lt] [b, c] = false := by with_unfolding_all rfl) :
    DE X ρ (.Compare a [.LtE, .Lt] [b, c] pos) (.d (.bool (decide (i ≤ j) && decide (j < k)))) ρ2 := fun F Z B H σ Q kk w =>
  ⟨_, pe_chain op_le op_lt pe_s pe_s pe_s hm, ha F Z B H σ _ kk fun v1 B1 H1 k1 x1 w1 => hb F Z B1 H1 σ _ k1 fun v2 B2 H2 k2 x2 w2 => by
    have d1 : Dp X.K B1 v1 (.int i) := w1
    have d2 : Dp X.K B2 v2 (.int j) := w2
    cases d1
    cases d2
    refine ⟨i, j, rfl, rfl, decide (i ≤ j), rfl, ?_⟩
    by_cases hij : i ≤ j
    · rw [if_pos (decide_eq_true hij)]
      refine hc F Z B2 H2 σ _ k2 fun v3 B3 H3 k3 x3 w3 => ?_
      have d3 : Dp X.K B3 v3 (.int k) := w3
      cases d3
      exact ⟨j, k, rfl, rfl, w _ B3 H3 k3 ((x1.trans x2).trans x3) (by rw [decide_eq_true hij, Bool.true_and]; exact .bl _)⟩
    · rw [if_neg (by simpa using hij)]
      exact w _ B2 H2 k2 (x1.trans x2) (by rw [decide_eq_false hij, Bool.false_and]; exact .bl _)⟩
theorem de_all {bs : List Bool} (hc : X.calm = true) (h : DLd X ρ e (bs.map .bool) ρ1) (hm : X.mg "all" = none) (hg : Gl X "all" := by rfl) (he : starEach [e] X.env = (false, eval e X.env) :: starEach [] X.env := by rfl) (hpl : (backTo pos (starEach [] X.env)).any (·.1) = false := by rfl) :
    DE X ρ (.Call (.Name "all" p) [e] [] pos) (.d (.bool (bs.all id))) ρ1 := fun F Z B H σ Q k q =>
  ⟨_, pe_callB (cr_all hc) hg hm PyProof.Rows.boot_all (pa_cons pe_s pa_nil he) (by decide) (by decide) he hpl, h F Z B H σ _ k fun a us B1 H1 k1 x1 hs t => by
    have e := bools_of t
    subst e
    exact ⟨a, bs, rfl, hs, q _ B1 H1 k1 x1 (.bl _)⟩⟩
end
/-! ### enumerate(list) -/
/-- the list at a, each item in a new pair that keeps no dict -/
def ItEl (K : PySem.W.Frag) (a : Addr) : It :=
  ⟨fun i H => ∃ (xs : List V) (x : V), SqL K H a xs ∧ xs[i]? = some x, fun i H v H' => ∃ T x o, v = .ref T ∧ H T = none ∧ H' = upd H T (.frz o (.tup [.int (i : Nat), x])) ∧ o.dict = none ∧ o.cls = .type "tuple" ∧ ∀ xs, SqL K H a xs → xs[i]? = some x, fun i H => ∃ xs : List V, SqL K H a xs ∧ xs.length ≤ i⟩
theorem turn_enumL {P : Program} {w : World} {K : PySem.W.Frag} {elts : List Expr} {kk : Nat} {tpos : Pos} (a e it : Addr) :
    Turn P w K (.Tuple elts kk tpos) (ItEl K a) [e, it] e (fun i h => (∃ old, IsEnum h e it ((i : Nat) : Int) old) ∧ h.IsListIter it a i ∧ e ≠ it) where
  mem := by simp
  obj := by
    rintro i h ⟨⟨old, he⟩, ⟨o, ho, hc, hd⟩, _⟩ b hb
    rcases (show b = e ∨ b = it by simpa using hb) with z | z
    · rw [z]; exact ⟨_, he, fun v q => nomatch q⟩
    · rw [z]; exact ⟨o, ho, fun v q => by rw [hd] at q; cases q⟩
  keep := by
    rintro i h h' ⟨⟨old, he⟩, hi, hne⟩ k
    exact ⟨⟨old, k e (by simp) _ he⟩, hi.at fun o q => k it (by simp) o q, hne⟩
  item := by
    intro X hP hw hK hc i pins s σ H E I hf st hg
    subst hP hw hK
    obtain ⟨⟨old, he⟩, hit, hne⟩ := st
    obtain ⟨xs, x, hq, hx⟩ := hg
    obtain ⟨its, rv, p, hz⟩ := I.list hq
    obtain ⟨u, hu, ru⟩ := rv.get hx
    have hel : e < s.heap.objs.size := Heap.lt_size he
    have hil : it < s.heap.objs.size := by obtain ⟨_, q, _⟩ := hit; exact Heap.lt_size q
    refine wpAny_pyNext_enum_item he hit p.isList (x := u) (by simpa using hu) hne fun h' ho hit' hT hsz hk => ⟨_, rfl, ?_⟩
    refine wpAny_letOwnedTupleGo_enum (s := { s with heap := h', toks := s.toks + 1 }) ho fun h'' he' sb => ?_
    have hT2 := (sb.2 _ (Nat.ne_of_gt hel)).trans hT
    have new : ObjOk X.prog X.w (upd H s.heap.objs.size (.frz { cls := .type "tuple", data := .seq #[.int i s.toks, u] } (.tup [.int (i : Nat), x]))) h'' s.heap.objs.size (.frz { cls := .type "tuple", data := .seq #[.int i s.toks, u] } (.tup [.int (i : Nat), x])) :=
      ⟨hT2, by show 2 ≤ sizeLine; decide, [.int i s.toks, u], .cons ⟨_, rfl⟩ (.cons ru .nil), ⟨_, hT2, rfl, _, rfl⟩⟩
    have I1 : Inv X pins σ (upd H s.heap.objs.size (.frz { cls := .type "tuple", data := .seq #[.int i s.toks, u] } (.tup [.int (i : Nat), x]))) { s with heap := h'', toks := s.toks + 1 } :=
      I.turnedNew (ch := [e, it]) (fun b ob hb q => (sb.2 b (fun z => hb (by simp [z]))).trans (hk b ob (fun z => hb (by simp [z])) (fun z => hb (by simp [z])) q)) hf (Nat.le_refl _) new
    refine ⟨.ref s.heap.objs.size, _, I1, rfl, ⟨_, x, _, rfl, I.hok.fresh (Nat.le_refl _), rfl, rfl, rfl, fun ys hy => by rw [I.list_inj hy hq]; exact hx⟩, ⟨⟨u, ?_⟩, hit'.at fun o q => (sb.2 it (Ne.symm hne)).trans q, hne⟩, fun b hb => ?_⟩
    · rw [show ((i + 1 : Nat) : Int) = (i : Int) + 1 by omega]
      exact he'
    · have hb' : b < s.heap.objs.size := by
        rcases (show b = e ∨ b = it by simpa using hb) with z | z
        · rw [z]; exact hel
        · rw [z]; exact hil
      rw [upd_ne (Nat.ne_of_lt hb')]
      exact (hf b hb).1
  done := by
    intro X hP hw hK hc i pins s σ H E I hf st hg
    subst hP hw hK
    obtain ⟨⟨old, he⟩, hit, hne⟩ := st
    obtain ⟨xs, hq, hx⟩ := hg
    obtain ⟨its, rv, p, hz⟩ := I.list hq
    obtain ⟨f0, f1, f2, f3, f4, f5⟩ := hf it (by simp)
    have hl := rv.length
    exact wpAny_pyNext_enum_end (I.ok.hd hc) he hit p.isList (by simp; omega) fun h' eb => ⟨rfl, I.turned (t' := s.toks) (fun b o hb q => eb b o hb q) f0 f1 f3 f4 f5⟩
  self := by
    rintro A i s Q E ⟨⟨_, he⟩, _⟩ h
    exact wpAny_pyIter_enum he h
def iEnumL (K : PySem.W.Frag) (ta : TA) : TI := fun σ H R => ta σ H fun vs H1 => ∃ a xs, vs = [.ref a] ∧ SqL K H1 a xs ∧ R (ItEl K a) H1
theorem pi_enumL {X : Cx} {e : Expr} {ta : TA} {p pos tpos : Pos} {elts : List Expr} {kk : Nat} (hg : Gl X "enumerate") (hm : X.mg "enumerate" = none) (ha : PA X [e] ta) (hs : starEach [e] X.env = [(false, eval e X.env)] := by rfl) : PI X (.Tuple elts kk tpos) (.Call (.Name "enumerate" p) [e] [] pos) (iEnumL X.K ta) := by
  refine ⟨fun pins s σ H R I h => Call_ (ld_blt I hg hm PyProof.Rows.boot_enumerate (PyProof.Rows.callWith_type1 (thn (ha.run pos pins s σ H _ I h) fun us s1 ⟨vs, H1, I1, r1, q1⟩ => ?_) hs rfl))⟩
  obtain ⟨a, xs, ex, hq, q⟩ := q1
  subst ex
  obtain ⟨u, eu, rx⟩ := vals1 r1
  subst eu
  cases rx
  obtain ⟨its, rv, p', hz⟩ := I1.list hq
  refine call_enumerate_list p'.isList fun h' he hit hsz hk => wpAny_pyIter_enum he ?_
  refine ⟨s1.heap.objs.size + 1, [s1.heap.objs.size + 1, s1.heap.objs.size], _, _, H1, rfl, I1.kept (t' := s1.toks) hk, turn_enumL a (s1.heap.objs.size + 1) s1.heap.objs.size, ⟨⟨.none, he⟩, hit, Nat.succ_ne_self _⟩, fun b hb => ?_, q⟩
  have hle : s1.heap.objs.size ≤ b := by
    rcases (show b = s1.heap.objs.size + 1 ∨ b = s1.heap.objs.size by simpa using hb) with z | z
    · rw [z]; exact Nat.le_add_right _ _
    · rw [z]; exact Nat.le_refl _
  exact I1.fpOk hle (I1.hok.fresh hle)
theorem walk_enumL {K : PySem.W.Frag} {a : Addr} {xs : List V} : Walk (ItEl K a) xs.length (fun H => SqL K H a xs) (YPairN (fun i => some (.int (i : Nat))) (fun i => xs[i]?)) := by
  refine ⟨fun i _ hi q => ⟨xs, xs[i], q, by simp [hi]⟩, fun _ q => ⟨xs, q, Nat.le_refl _⟩, ?_⟩
  rintro i H v H' _ q ⟨T, x, o, h1, h2, h3, h5, h6, h4⟩
  exact ⟨T, .int (i : Nat), x, o, h1, h2, h3, h5, h6, rfl, h4 xs q⟩
theorem di_enumL {X : Cx} {ρ ρ1 : Env'} {e : Expr} {p pos tpos : Pos} {elts : List Expr} {kk : Nat} {xs : List PyData} (hm : X.mg "enumerate" = none) (h : DE X ρ e (.d (.list xs)) ρ1) (hg : Gl X "enumerate" := by rfl) (hs : starEach [e] X.env = [(false, eval e X.env)] := by rfl)
    (he : starEach [e] X.env = (false, eval e X.env) :: starEach [] X.env := by rfl) : DI X ρ (.Tuple elts kk tpos) (.Call (.Name "enumerate" p) [e] [] pos) (pairsD xs) ρ1 := fun F Z B H σ Q k q =>
  ⟨_, pi_enumL hg hm (pa_cons pe_s pa_nil he) hs, h F Z B H σ _ k fun v B1 H1 k1 x1 w => by
    have w' : Dp X.K B1 v (.list xs) := w
    cases w' with
    | @lst a vs _ s t =>
    refine ⟨a, vs, rfl, s.imp k1.exB.rd id, q _ _ _ _ B1 H1 k1 x1 (by rw [pairsD_len]; exact DpAll.length t) walk_enumL (fun B2 H2 y1 y2 => s.imp (y1.trans y2).rd id) ?_⟩
    rintro F2 Z2 B2 H2 σ2 ρ2 i v H3 k2 y2 hi ⟨T, x, y, o, rfl, hT, rfl, od, oc, hx, hy⟩
    obtain rfl : V.int (i : Nat) = x := Option.some.inj hx
    obtain ⟨d, h1, h2⟩ := DpAll.get t hy
    have n := k2.fresh hT
    exact ⟨_, _, pairsD_at h1, k2.new hT _, Sub.new _ n.2.1, .tup (.inl (.inr ⟨o, upd_same⟩)) ⟨o, _, upd_same, od, oc⟩ (dpAll_mono (Sub.new _ n.2.1) (.cons (.int _) (.cons (dp_mono y2 h2) .nil)))⟩⟩
end G

set_option Elab.async false
set_option linter.all false
set_option maxRecDepth 100000
set_option maxHeartbeats 4000000
/- loops that leave with what they first find, -x, isinstance of anything, shapes -/
namespace G
open PySem L2 PySem.Spec PyProof.Rows
section
variable {X : Cx} {ρ ρ1 ρ2 ρ3 : Env'} {a b c e tg iter : Expr} {p q pos : Pos} {body rest : List Stmt} {o : O}
/-- a loop that returns the first thing it finds -/
theorem db_forO {α : Type} (l : List α) (G' : α → PyData) (f : α → Option PyData) (hp : PassesOwn (model X.prog X.w) X.A X.env X.xe) (hc : X.calm = true) (hi : DI X ρ tg iter (l.map G') ρ1)
    (turn : ∀ x ∈ l, ∃ ρt js, DG X ρ1 tg (G' x) js ρt ∧ (f x = none → DB X ρt body (.nx ρ1)) ∧ (∀ d, f x = some d → DB X ρt body (.rt d ρ1)))
    (go : l.findSome? f = none → DB X ρ1 rest o) (bad : ∀ d, l.findSome? f = some d → o = .rt d ρ1)
    (hs : ∀ x, foldedSetIterable iter X.env x = pure x := by intro _; rfl) : DB X ρ (.For tg iter body [] pos :: rest) o := by
  cases hb : l.findSome? f with
  | none =>
    refine db_cons (ds_for hp hc hi (fun _ => ρ1) (.refl _) (fun i x hx => ?_) rfl hs) (go hb)
    rw [List.getElem?_map] at hx
    cases hli : l[i]? with
    | none => rw [hli] at hx; cases hx
    | some y =>
      rw [hli] at hx
      cases hx
      have hy := List.mem_of_getElem? hli
      obtain ⟨ρt, js, h1, h2, _⟩ := turn y hy
      exact ⟨ρt, js, h1, h2 (List.findSome?_eq_none_iff.mp hb y hy)⟩
  | some d =>
    obtain rfl := bad d hb
    have ⟨m, hm, e, lo⟩ : ∃ m, ∃ hm : m < l.length, f l[m] = some d ∧ ∀ i (h : i < l.length), i < m → f l[i] = none := by
      clear turn go bad hi
      induction l with
      | nil => simp at hb
      | cons b bs ih =>
        cases hfb : f b with
        | some d' =>
          rw [List.findSome?_cons, hfb] at hb
          exact ⟨0, by simp, by simpa [hfb] using hb, fun i _ z => absurd z (Nat.not_lt_zero i)⟩
        | none =>
          rw [List.findSome?_cons, hfb] at hb
          obtain ⟨m, hm, e, lo⟩ := ih hb
          refine ⟨m + 1, by simpa using hm, by simpa using e, fun i h z => ?_⟩
          cases i with
          | zero => simpa using hfb
          | succ i => simpa using lo i (by simpa using h) (by omega)
    have gx : ∀ {i : Nat} {x : PyData}, (l.map G')[i]? = some x → ∃ hi : i < l.length, x = G' l[i] := fun {i x} hx => by
      rw [List.getElem?_map] at hx
      cases hli : l[i]? with
      | none => rw [hli] at hx; cases hx
      | some y =>
        rw [hli] at hx
        obtain ⟨h1, h2⟩ := List.getElem?_eq_some_iff.mp hli
        exact ⟨h1, by rw [h2]; exact (Option.some.inj hx).symm⟩
    refine db_rt (for_leaves hp hc hi m (by rw [List.length_map]; exact hm) (fun _ => ρ1) (.refl _) (fun i x him hx => ?_) (fun x hx => ?_) hs)
    · obtain ⟨hi', rfl⟩ := gx hx
      obtain ⟨ρt, js, h1, h2, _⟩ := turn _ (List.getElem_mem hi')
      exact ⟨ρt, js, _, h1, .inl (h2 (lo i hi' him)), .refl _⟩
    · obtain ⟨hi', rfl⟩ := gx hx
      obtain ⟨ρt, js, h1, _, h3⟩ := turn _ (List.getElem_mem hi')
      exact ⟨ρt, js, h1, .inl ⟨_, _, h3 d e, rfl⟩⟩
/-- a turn of such a loop, whatever it ends in -/
theorem turn_opt {v : Option PyData} {ρt ρa : Env'} {sts : List Stmt} (h : ∀ o : O, (v = none → o = .nx ρa) → (∀ d, v = some d → o = .rt d ρa) → DB X ρt sts o) (w : Wk ρa ρ1) : (v = none → DB X ρt sts (.nx ρ1)) ∧ (∀ d, v = some d → DB X ρt sts (.rt d ρ1)) :=
  ⟨fun e => db_weak (h _ (fun _ => rfl) (fun d z => by rw [e] at z; cases z)) w, fun d e => db_rtW (h _ (fun z => by rw [e] at z; cases z) (fun d' z => by rw [e] at z; cases z; rfl)) w⟩
theorem turn_ifO {x : Bool} {d : PyData} {ρt ρa ρr : Env'} {as : List Stmt} (h : DT X ρt c x ρa) (hr : x = true → DB X ρa as (.rt d ρr)) (w : Wk ρa ρ1) (w' : Wk ρr ρ1) : ((if x = true then some d else none) = none → DB X ρt [.If c as [] pos] (.nx ρ1)) ∧ (∀ d', (if x = true then some d else none) = some d' → DB X ρt [.If c as [] pos] (.rt d' ρ1)) := by
  cases x with
  | true => exact ⟨fun z => by simp at z, fun d' z => by obtain rfl : d = d' := by simpa using z
                                                         exact db_ifT h (db_rtW (hr rfl) w')⟩
  | false => exact ⟨fun _ => db_ifF h (db_weak db_nil w), fun d' z => by simp at z⟩
theorem dw_orT {es : List Expr} (h : DT X ρ a true ρ1) : DW X ρ (.BoolOp .Or (a :: b :: es) pos) true ρ1 := dw_or (y := true) h (fun z => nomatch z) (fun _ => rfl)
theorem de_neg {i : Int} (h : DE X ρ a (.d (.int i)) ρ1) : DE X ρ (.UnaryOp .USub a pos) (.d (.int (-i))) ρ1 := fun F Z B H σ Q k q =>
  ⟨_, pe_un un_neg pe_s, h F Z B H σ _ k fun v B1 H1 k1 x1 w => by
    have w' : Dp X.K B1 v (.int i) := w
    cases w'
    exact ⟨i, rfl, q _ B1 H1 k1 x1 (.int _)⟩⟩
theorem od_eqS {K : PySem.W.Frag} {i j : Str} : OpD K rEq ρ (.d (.str i)) (.d (.str j)) (.d (.bool (decide (i = j)))) := fun F Z B H σ Q v1 v2 k w1 w2 q => by
  cases w1; cases w2
  have e : decide (V.str i = V.str j) = decide (i = j) := by simp
  exact ⟨rfl, e ▸ q _ B H k (Sub.refl B) (.bl _)⟩
theorem dt_eqS {i j : Str} (ha : DE X ρ a (.d (.str i)) ρ1) (hb : DE X ρ1 b (.d (.str j)) ρ2) : DT X ρ (.Compare a [.Eq] [b] pos) (decide (i = j)) ρ2 := dt_cmp op_eq od_eqS (nomark b) ha hb
/-! ### isinstance of anything -/
def isT (n : String) : PyData → Bool
  | .none => n == "NoneType"
  | .bool _ => n == "bool" || n == "int"
  | .int _ => n == "int"
  | .str _ => n == "str"
  | .list _ => n == "list"
  | .tuple _ => n == "tuple"
  | .dict _ => n == "dict" 
theorem de_isX {n : String} {d : PyData} {x : Str} (hr : ∀ z ∈ [PyData.none, .bool true, .int 0, .str "", .list [], .tuple [], .dict []], kitB (tyD z) n = some (isT n z)) (hv : bootBuiltins x = some (.type n)) (h : DE X ρ e (.d d) ρ1) (hm : X.mg "isinstance" = none) (hx : X.mg x = none) (hg : Gl X "isinstance" := by rfl) (hgx : Gl X x := by rfl)
    (hn : x ≠ "__name__" := by decide) (hd : (x == ("__debug__" : Str)) = false := by decide) (he : starEach [e, .Name x q] X.env = (false, eval e X.env) :: starEach [.Name x q] X.env := by rfl) (he2 : starEach [.Name x q] X.env = (false, eval (.Name x q) X.env) :: starEach [] X.env := by rfl)
    (hpl : (backTo pos (starEach [.Name x q] X.env)).any (·.1) = false := by rfl) : DE X ρ (.Call (.Name "isinstance" p) [e, .Name x q] [] pos) (.d (.bool (isT n d))) ρ1 := fun F Z B H σ Q k w =>
  ⟨_, pe_callB call_isiY hg hm PyProof.Rows.boot_isinstance (pa_cons pe_s (pa_cons (pe_bltn hgx hx hv (show RelV (.ty n) (.type n) from rfl) hn hd) pa_nil he2) he) (by decide) (by decide) he hpl, h F Z B H σ _ k fun v B1 H1 k1 x1 w1 => by
    have w' : Dp X.K B1 v d := w1
    have e : kitB (tyD d) n = some (isT n d) := by
      cases w' with
      | non => exact hr .none (by simp)
      | bl b => exact hr (.bool true) (by simp)
      | int i => exact hr (.int 0) (by simp)
      | str z => exact hr (.str "") (by simp)
      | lst _ _ => exact hr (.list []) (by simp)
      | tup _ _ _ => exact hr (.tuple []) (by simp)
      | dct _ _ _ => exact hr (.dict []) (by simp)
      | dnn _ _ _ _ _ _ _ _ _ _ => exact hr (.dict []) (by simp)
    exact ⟨v, .ty n, _, _, isT n d, rfl, .ty n, tyx_of k1.exB w', kit_ty e, w _ B1 H1 k1 x1 (.bl _)⟩⟩
end
/-! ### shapes -/
def Sx (n : Nat) (d : PyData) : Prop := d.canLay0 = true ∧ d.depth ≤ n
theorem Sx.sh {n : Nat} {d : PyData} (h : Sx n d) (hn : n ≤ 64 := by decide) : SeqAt.shaped d = true := by
  show (PyData.canLay0 d && decide (d.depth ≤ 64)) = true
  rw [h.1, decide_eq_true (Nat.le_trans h.2 hn)]; rfl
theorem Sx.mono {n m : Nat} {d : PyData} (h : Sx n d) (hn : n ≤ m) : Sx m d := ⟨h.1, Nat.le_trans h.2 hn⟩
theorem sx_int {i : Int} : Sx 0 (.int i) := ⟨by simp [PyData.canLay0], by simp [PyData.depth]⟩
theorem sx_bool {i : Bool} : Sx 0 (.bool i) := ⟨by simp [PyData.canLay0], by simp [PyData.depth]⟩
theorem sx_none : Sx 0 .none := ⟨by simp [PyData.canLay0], by simp [PyData.depth]⟩
theorem sx_all {n : Nat} {xs : List PyData} (h : ∀ x ∈ xs, Sx n x) : PyData.canLayAll0 xs = true ∧ PyData.depthAll xs ≤ n := by
  induction xs with
  | nil => exact ⟨by simp [PyData.canLayAll0], by simp [PyData.depthAll]⟩
  | cons x xs ih =>
    obtain ⟨h1, h2⟩ := ih fun y hy => h y (List.mem_cons_of_mem _ hy)
    have q := h x List.mem_cons_self
    refine ⟨by simp only [PyData.canLayAll0, q.1, h1, Bool.and_self], ?_⟩
    simp only [PyData.depthAll]
    have := q.2
    omega
theorem sx_tup {n : Nat} {xs : List PyData} (h : ∀ x ∈ xs, Sx n x) : Sx (n + 1) (.tuple xs) := by
  obtain ⟨h1, h2⟩ := sx_all h
  exact ⟨by simpa only [PyData.canLay0] using h1, by simp only [PyData.depth]; omega⟩
theorem sx_list {n : Nat} {xs : List PyData} (h : ∀ x ∈ xs, Sx n x) : Sx (n + 1) (.list xs) := by
  obtain ⟨h1, h2⟩ := sx_all h
  exact ⟨by simpa only [PyData.canLay0] using h1, by simp only [PyData.depth]; omega⟩
theorem sx_of {d : PyData} (h : SeqAt.shaped d = true) : d.canLay0 = true := by
  have h' : (PyData.canLay0 d && decide (d.depth ≤ 64)) = true := h
  rw [Bool.and_eq_true] at h'
  exact h'.1
end G

set_option Elab.async false
set_option linter.all false
set_option maxRecDepth 100000
set_option maxHeartbeats 4000000
/- *row in a tuple; dicts whose keys are texts; x, y = [..], [..] -/
namespace G
open PySem L2 PySem.Spec PyProof.Rows
section
variable {X : Cx} {ρ ρ' ρ1 ρ2 ρ3 : Env'} {a b c e kx vx tg iter : Expr} {es : List Expr} {p pos : Pos} {xs ys zs : List PyData}
theorem da_star (h : DE X ρ e (.d (.tuple xs)) ρ1) (t : DA X ρ1 es ys ρ2) (hs : starEach (.Starred e p :: es) X.env = (true, eval e X.env) :: starEach es X.env := by rfl) : DA X ρ (.Starred e p :: es) (xs ++ ys) ρ2 := fun F Z B H σ Q k q =>
  ⟨_, StX.pa_star pe_s pa_s hs, h F Z B H σ _ k fun v B1 H1 k1 x1 w => by
    obtain ⟨a, vs, e, s, _, t0⟩ := tup_at k1 w
    exact ⟨a, vs, e, .inl s, t F Z B1 H1 σ _ k1 fun us B2 H2 k2 x2 w2 => q _ B2 H2 k2 (x1.trans x2) (G.DpAll.append (dpAll_mono x2 t0) w2)⟩⟩
/-- x, y = [..], [..] -/
theorem ds_par2L {i j : Nat} {x y : Str} {s1 s2 : Sl} {px py pt pt2 : Pos} {kt k2} (hc : X.calm = true) (hN : X.N.Nodup) (h2 : DL X ρ a ys ρ1) (h3 : DL X ρ1 b zs ρ2)
    (hr1 : ρ2[i]? = some s1 := by rfl) (hr2 : ρ2[j]? = some s2 := by rfl) (hi : X.N[i]? = some x := by rfl) (hj : X.N[j]? = some y := by rfl) (hij : i ≠ j := by decide)
    (lx : X.env.scope.names.lookup x = some .local := by rfl) (ly : X.env.scope.names.lookup y = some .local := by rfl)
    (hw : swappedStores [.Tuple [.Name x px, .Name y py] kt pt] (.Tuple [a, b] k2 pt2) X.env = pure (some [x, y]) := by rfl)
    (hs : swapsWithSole [.Tuple [.Name x px, .Name y py] kt pt] (.Tuple [a, b] k2 pt2) pos.line X.env = pure false := by rfl)
    (hs1 : starEach [a, b] X.env = (false, eval a X.env) :: starEach [b] X.env := by rfl) (hs2 : starEach [b] X.env = (false, eval b X.env) :: starEach [] X.env := by rfl) :
    DS X ρ (.Assign [.Tuple [.Name x px, .Name y py] kt pt] (.Tuple [a, b] k2 pt2) pos) (.nx ((ρ2.set i (.o (.lst ys))).set j (.o (.lst zs)))) := fun F Z B H σ D k q =>
  ⟨_, ps_par hc hN hi hj hij lx ly (pa_cons pe_s (pa_cons pe_s pa_nil hs2) hs1) hw hs,
    h2 F Z B H σ _ k fun p2 us2 B2 H2 k2 x2 n2 hp2 t2 => by
    refine h3 _ _ B2 H2 σ _ (k2.lock n2 hp2) fun p3 us3 B3 H3 k3 x3 n3 hp3 t3 => ?_
    obtain ⟨k4, n4, h4⟩ := k3.unlock n2.f n2.z
    obtain ⟨n5, ne⟩ := n3.less
    have i1 : i < ρ2.length := (List.getElem?_eq_some_iff.mp hr1).1
    have j1 : j < ρ2.length := (List.getElem?_eq_some_iff.mp hr2).1
    have o2 : ObAt X.K B3 H3 (.ref p2) [p2] (.lst ys) := .lst h4 (dpAll_mono x3 t2)
    have k5 := k4.take n4 i1 o2
    have n6 := n5.setO (i := i) (v := .ref p2) k4.len o2 (by simpa using ne)
    have k6 := k5.take n6 (by rw [List.length_set]; exact j1) (.lst hp3 t3)
    exact ⟨.ref p2, .ref p3, rfl, q B3 H3 _ k6 (x2.trans x3)⟩⟩
/-! ### {text: .. for .. in ..} -/
def tabL (l : List (Str × PyData)) : List (Key × PyData) := l.foldl (fun kvs p => putD kvs (.inr p.1) p.2) []
theorem putD_len {kvs : List (Key × PyData)} {k : Key} {d : PyData} : (putD kvs k d).length ≤ kvs.length + 1 := by
  unfold putD
  split <;> simp
theorem tabF_len : ∀ (l : List (Str × PyData)) (kvs : List (Key × PyData)), (l.foldl (fun kvs p => putD kvs (.inr p.1) p.2) kvs).length ≤ kvs.length + l.length
  | [], _ => Nat.le_refl _
  | p :: l, kvs => by
    rw [List.foldl_cons]
    have h1 := tabF_len l (putD kvs (.inr p.1) p.2)
    have h2 := putD_len (kvs := kvs) (k := .inr p.1) (d := p.2)
    simp only [List.length_cons]
    omega
theorem tabL_len (l : List (Str × PyData)) : (tabL l).length ≤ l.length := by
  have := tabF_len l []
  rw [List.length_nil, Nat.zero_add] at this
  exact this
theorem tabL_snoc (l : List (Str × PyData)) (p : Str × PyData) : tabL (l ++ [p]) = putD (tabL l) (.inr p.1) p.2 := by
  unfold tabL
  rw [List.foldl_append]; rfl
theorem df_dcT {α : Type} {scope : Scope} (l : List α) (G' : α → PyData) (kf : α → Str) (vf : α → PyData) (own : List (Str × Nat)) (hc : X.calm = true) (hN : X.N.Nodup) (ok : BlkOk X.N X.env.scope scope own) (hi : DI X ρ tg iter (l.map G') ρ1) (hv : ∀ j ∈ own.map (·.2), gS ρ1 j = .un)
    (turn : ∀ x ∈ l, ∃ ρt js ρk ρe, (Blk X scope fun Y => DG Y ρ1 tg (G' x) js ρt) ∧ (Blk X scope fun Y => DE Y ρt kx (.d (.str (kf x))) ρk) ∧ (Blk X scope fun Y => DE Y ρk vx (.d (vf x)) ρe) ∧ (∀ j ∈ js, j ∈ own.map (·.2)) ∧ Wk ρe ρ1) (hz : l.length < 1000000)
    (hs : ∀ x, foldedSetIterable iter X.env x = pure x := by intro _; rfl) : DF X ρ (.DictComp kx vx [⟨tg, iter, [], 0⟩] scope pos) (.dk (tabL (l.map fun x => (kf x, vf x)))) ρ1 := fun F Z B H σ Q k q =>
  ⟨_, pe_dc (g := bG X scope tg) (tt := tYes) (tk := bE X scope kx) (tv := bE X scope vx) hc hN pi_s ok pg_b (fun _ _ _ _ _ => pts_nil) pe_b pe_b hs, by
    refine hi F Z B H σ _ k fun J n Gd Y B1 H1 k1 x1 hn W hG hY D hD => ?_
    rw [List.length_map] at hn
    subst hn
    generalize hvs : own.map (·.2) = vs at hv turn ⊢
    have wu := wipeE_wk hv
    have kw := (k1.wipe vs).weak wu
    obtain ⟨frD, _, frZ⟩ := k1.fresh hD
    refine ⟨fun i m H' => m = l.length - i ∧ i ≤ l.length ∧ ∃ B', Ok X.K F Z B' H' (wipe σ vs) ρ1 ∧ Sub B1 B' ∧ New X.K F Z B' H' (wipe σ vs) ρ1 D ∧ ObAt X.K B' H' (.ref D) [D] (.dk (tabL ((l.take i).map fun x => (kf x, vf x)))), ⟨l.length, by simp, Nat.zero_le _, B1, kw.loose hD _, Sub.refl B1, kw.laid hD _, .dk upd_same .nil⟩, ?_⟩
    rintro i m H' ⟨rfl, hle, B', k', y, nw, ob⟩
    by_cases hlt : i < l.length
    · refine .inr ⟨W.goes i H' hlt (hG B' H' y k'.exB), fun H' => ∃ B', Ok X.K F Z B' H' (wipe σ vs) ρ1 ∧ Sub B1 B' ∧ New X.K F Z B' H' (wipe σ vs) ρ1 D ∧ ObAt X.K B' H' (.ref D) [D] (.dk (tabL ((l.take (i + 1)).map fun x => (kf x, vf x)))), fun H' h => ⟨l.length - (i + 1), by omega, rfl, hlt, h⟩, ?_⟩
      intro v H2 hv'
      have hv' := W.yields i H' v H2 hlt (hG B' H' y k'.exB) hv'
      cases ob with
      | @dk _ r _ d1 d5 =>
      obtain ⟨B2, x, hx, k2, y2, w⟩ := hY _ _ B' H' (wipe σ vs) ρ1 i v H2 (k'.lock nw d1) y hlt hv'
      have hli : l[i]? = some l[i] := List.getElem?_eq_getElem hlt
      rw [List.getElem?_map, hli] at hx
      cases hx
      obtain ⟨ρt, js, ρk, ρe, t2, t3, t4, t1, t5⟩ := turn l[i] (List.getElem_mem hlt)
      intro s0 H0 C0 cl0 fp0
      refine t2 s0 H0 C0 cl0 fp0 _ _ B2 H2 (wipe σ vs) v _ k2 w fun B3 H3 σ3 k3 y3 wp => ?_
      have e3 : wipe σ3 vs = wipe σ vs := wipe_wipe (wp vs t1)
      refine ⟨by rw [e3], ?_⟩
      unfold tYes
      dsimp only
      rw [if_pos rfl]
      intro s1 H1' C1 cl1 fp1
      refine t3 s1 H1' C1 cl1 fp1 _ _ B3 H3 σ3 _ k3 fun vk B4 H4 k4 y4 wk => ?_
      intro s2 H2' C2 cl2 fp2
      refine t4 s2 H2' C2 cl2 fp2 _ _ B4 H4 σ3 _ k4 fun vz B5 H5 k5 y5 wz => ?_
      have k5' := ((k5.weak t5).wipe vs).weak wu
      rw [e3] at k5'
      obtain ⟨k6, n6, h6⟩ := k5'.unlock frD frZ
      have yy : Sub B' B5 := ((y2.trans y3).trans y4).trans y5
      have dk : Dp X.K B4 vk (.str (kf l[i])) := wk
      cases dk
      have d5' := d5.mono yy
      refine ⟨r, .inr (kf l[i]), rfl, h6, ?_, ?_⟩
      · rw [d5.length]
        have h1 := tabL_len ((l.take i).map fun x => (kf x, vf x))
        rw [List.length_map, List.length_take] at h1
        have z : (1000000 : Nat) ≤ sizeLine := by decide
        omega
      · refine ⟨B5, k6.poke n6, y.trans yy, n6.poke k6, ?_⟩
        rw [List.take_add_one, hli, List.map_append]
        show ObAt X.K B5 _ _ _ (.dk (tabL (_ ++ [(kf l[i], vf l[i])])))
        rw [tabL_snoc]
        exact .dk upd_same (d5'.put wz)
    · have e : i = l.length := by omega
      subst e
      have dn0 := ob
      cases ob with
      | @dk _ r _ d1 d5 =>
      obtain ⟨k6, n6, h6⟩ := (Ok.merge k1 (k'.lock nw d1) y (mrg_un rfl hv)).unlock frD frZ
      rw [List.take_length] at dn0
      exact .inl ⟨W.stops H' (hG B' H' y k'.exB), q D B' H' k6 (x1.trans y) n6 dn0⟩⟩
theorem KvAll.find {K : PySem.W.Frag} {B : Hp} : ∀ {r : List (Key × V)} {s : List (Key × PyData)} {k : Key} {d : PyData}, KvAll K B r s → (k, d) ∈ s → ∃ (i : Nat) (v : V), r[i]? = some (k, v) ∧ Dp K B v d
  | _, _, _, _, .nil, h => nomatch h
  | _, _, k, d, .cons h t, m => by
    rcases List.mem_cons.mp m with e | m
    · cases e
      exact ⟨0, _, rfl, h⟩
    · obtain ⟨i, v, q1, q2⟩ := KvAll.find t m
      exact ⟨i + 1, v, by simpa using q1, q2⟩
/-- d[text], d of our own -/
theorem de_dkAt {i : Nat} {t : Str} {d : PyData} {kvs : List (Key × PyData)} (hu : X.A.units + 100 < cLine) (nd : (kvs.map (·.1)).Nodup) (hm : ((.inr t : Key), d) ∈ kvs) (ho : DE X ρ a (.o i) ρ1) (he : DE X ρ1 b (.d (.str t)) ρ2) (hs : ρ2[i]? = some (.o (.dk kvs)) := by rfl) (hnl : NoSl b := by intro _ _; rfl) :
    DE X ρ (.Subscript a b pos) (.d d) ρ2 := fun F Z B H σ Q k q =>
  ⟨_, pe_dget (by omega) pe_s pe_s hnl, ho F Z B H σ _ k fun v1 B1 H1 k1 x1 w1 => he F Z B1 H1 σ _ k1 fun v2 B2 H2 k2 x2 w2 => by
    obtain ⟨v', as, g1, g2, _⟩ := k2.ob (gS_some hs)
    have w' : gV σ i = some v1 := w1
    rw [w'] at g1
    cases g1
    have dt : Dp X.K B2 v2 (.str t) := w2
    cases dt
    cases g2 with
    | @dk aa r _ h t0 =>
    obtain ⟨j, v, h1, h2⟩ := t0.find hm
    have g := DGet.k (k := (.inr t : Key)) h
    rw [valV_nodup (by rw [t0.at.2]; exact nd) h1] at g
    exact ⟨aa, v, rfl, g, q v B2 H2 k2 (x1.trans x2) h2⟩⟩
/-- sorted(d), d of our own, its keys texts -/
theorem dl_sortTx {i : Nat} {kvs : List (Key × PyData)} {ks zs : List Str} (hc : X.calm = true) (hk : kvs.map (·.1) = ks.map Sum.inr) (hz : ks.length < 64) (hu : ∀ ys : List Str, ys.Perm ks → sortedS ys = true → ys = zs) (hm : X.mg "sorted" = none) (h : DE X ρ e (.o i) ρ1) (hs : ρ1[i]? = some (.o (.dk kvs)) := by rfl) (hg : Gl X "sorted" := by rfl)
    (he : starEach [e] X.env = (false, eval e X.env) :: starEach [] X.env := by rfl) (hpl : (backTo pos (starEach [] X.env)).any (·.1) = false := by rfl) : DL X ρ (.Call (.Name "sorted" p) [e] [] pos) (zs.map .str) ρ1 := fun F Z B H σ Q k q =>
  ⟨_, pe_callB (call_sortedD hc) hg hm PyProof.Rows.boot_sorted (pa_cons pe_s pa_nil he) (by decide) (by decide) he hpl, h F Z B H σ _ k fun v B1 H1 k1 x1 w1 => by
    obtain ⟨v', as, g1, g2, _⟩ := k1.ob (gS_some hs)
    have w' : gV σ i = some v := w1
    rw [w'] at g1
    cases g1
    cases g2 with
    | @dk aa r _ h t =>
    refine ⟨aa, r, ks, rfl, .inl h, by rw [t.at.2]; exact hk, hz, fun ys l hp hs2 hl => ?_⟩
    obtain rfl := hu ys hp hs2
    have asS : ∀ ys : List Str, DpAll X.K B1 (ys.map V.str) (ys.map PyData.str) := by
      intro ys
      induction ys with
      | nil => exact .nil
      | cons y ys ih => exact .cons (.str y) ih
    exact q l _ B1 _ (k1.loose hl _) x1 (k1.laid hl _) upd_same (asS ys)⟩
end
end G

set_option Elab.async false
set_option linter.all false
set_option maxRecDepth 100000
set_option maxHeartbeats 4000000
/- dicts as data -/
namespace G
open PySem L2 PySem.Spec PyProof.Rows
/-! ### what is found in a dict -/
def lkD (s : List (Key × PyData)) (k : Key) : Option PyData := (s.find? fun p => decide (p.1 = k)).map (·.2)
theorem lkD_val {K : PySem.W.Frag} {B : Hp} {k : Key} : ∀ {r : List (Key × V)} {s : List (Key × PyData)}, KvAll K B r s → (lkD s k = none → valV r k = none) ∧ ∀ d, lkD s k = some d → ∃ v, valV r k = some v ∧ Dp K B v d
  | _, _, .nil => ⟨fun _ => rfl, fun _ h => by cases h⟩
  | _, _, .cons (k := k') (v := v) (d := d') h t => by
    have ih := lkD_val (k := k) t
    unfold lkD valV at ih ⊢
    rw [List.find?_cons, List.find?_cons]
    by_cases e : k' = k
    · rw [decide_eq_true e]
      exact ⟨(fun h => nomatch h), fun d hd => ⟨v, rfl, by cases hd; exact h⟩⟩
    · rw [decide_eq_false e]
      exact ih
theorem lkD_some {K : PySem.W.Frag} {B : Hp} {k : Key} {r : List (Key × V)} {s : List (Key × PyData)} (t : KvAll K B r s) : (valV r k).isSome = (lkD s k).isSome := by
  cases e : lkD s k with
  | none => rw [(lkD_val t).1 e]; rfl
  | some d =>
    obtain ⟨v, h, _⟩ := (lkD_val t).2 d e
    rw [h]; rfl
theorem lkD_put {s : List (Key × PyData)} {k k' : Key} {d : PyData} : lkD (putD s k d) k' = if k = k' then some d else lkD s k' := by
  have find_map : ∀ s : List (Key × PyData), ((s.map fun kv => if kv.1 = k then (kv.1, d) else kv).find? fun p => decide (p.1 = k')).map (·.2) = if k = k' then (if (s.any fun kv => decide (kv.1 = k)) = true then some d else none) else (s.find? fun p => decide (p.1 = k')).map (·.2) := by
    intro s
    induction s with
    | nil => simp
    | cons p s ih =>
      rw [List.map_cons, List.find?_cons, List.find?_cons, List.any_cons]
      by_cases e : p.1 = k
      · rw [if_pos e]
        by_cases e2 : k = k'
        · simp [e, e2]
        · have e3 : decide (p.1 = k') = false := decide_eq_false (by rw [e]; exact e2)
          simp only [e3]
          rw [ih, if_neg e2, if_neg e2]
      · rw [if_neg e]
        by_cases e2 : k = k'
        · have e3 : decide (p.1 = k') = false := decide_eq_false (by rw [← e2]; exact e)
          simp only [e3]
          rw [ih, if_pos e2, if_pos e2]
          rw [decide_eq_false e, Bool.false_or]
        · by_cases e4 : p.1 = k'
          · simp [e4, e2]
          · have e3 : decide (p.1 = k') = false := decide_eq_false e4
            simp only [e3]
            rw [ih, if_neg e2, if_neg e2]
  unfold lkD putD
  by_cases an : (s.any fun kv => decide (kv.1 = k)) = true
  · rw [if_pos an, find_map, if_pos an]
  · rw [if_neg an, List.find?_append]
    by_cases e : k = k'
    · subst e
      have : (s.find? fun p => decide (p.1 = k)) = none := by
        rw [List.find?_eq_none]
        intro x hx hd
        exact an (List.any_eq_true.mpr ⟨x, hx, hd⟩)
      rw [this, if_pos rfl]; simp
    · rw [if_neg e, List.find?_cons, decide_eq_false e]; simp
theorem dp_key {K : PySem.W.Frag} {B : Hp} {v : V} {k : Key} (h : Dp K B v (keyD k)) : v = kV k := by
  cases k with
  | inl i => cases h; rfl
  | inr t => cases h; rfl
theorem key_dp {K : PySem.W.Frag} {B : Hp} (k : Key) : Dp K B (kV k) (keyD k) := by
  cases k with
  | inl i => exact .int i
  | inr t => exact .str t
theorem KvAll.of {K : PySem.W.Frag} {B : Hp} : ∀ {r : List (Key × V)} {s : List (Key × PyData)}, r.map (·.1) = s.map (·.1) → DpAll K B (r.map (·.2)) (s.map (·.2)) → KvAll K B r s
  | [], [], _, _ => .nil
  | [], _ :: _, e, _ => nomatch e
  | _ :: _, [], e, _ => nomatch e
  | (k, v) :: r, (k', d) :: s, e, h => by
    injection e with e1 e2
    obtain rfl : k = k' := e1
    cases h with
    | cons h t => exact .cons h (KvAll.of e2 t)
theorem KvAll.dp {K : PySem.W.Frag} {B : Hp} {p : Addr} {o : Obj} {r : List (Key × V)} {s : List (Key × PyData)} (h : B p = some (.frz o (.dK r))) (t : KvAll K B r s) : Dp K B (.ref p) (dctD s) := .dct h t.at.2 t.at.1
theorem keyD_inj {a b : Key} (h : keyD a = keyD b) : a = b := by
  cases a <;> cases b <;> cases h <;> rfl
theorem dct_inj {s t : List (Key × PyData)} (h : (s.map fun kv => (keyD kv.1, kv.2)) = t.map fun kv => (keyD kv.1, kv.2)) : s = t := by
  induction s generalizing t with
  | nil => cases t with | nil => rfl | cons _ _ => cases h
  | cons p s ih =>
    cases t with
    | nil => cases h
    | cons q t =>
      rw [List.map_cons, List.map_cons] at h
      injection h with h1 h2
      injection h1 with h3 h4
      obtain ⟨a, b⟩ := p
      obtain ⟨c, d⟩ := q
      rw [ih h2, show a = c from keyD_inj h3, show b = d from h4]
/-! ### what reads as a dict -/
inductive RD (ρ : Env') : R → List (Key × PyData) → Prop
  | o {i : Nat} {s : List (Key × PyData)} : ρ[i]? = some (.o (.dk s)) → RD ρ (.o i) s
  | d {s : List (Key × PyData)} : RD ρ (.d (dctD s)) s
theorem RD.at {K : PySem.W.Frag} {F : Hp} {Z : Addr → Prop} {B H : Hp} {σ : L2.St} {v : V} {ρ : Env'} {r : R} {s : List (Key × PyData)} (h : RD ρ r s) (k : Ok K F Z B H σ ρ) (w : VR K B σ v r) : ∃ p rr, v = .ref p ∧ Rd H p (.dK rr) ∧ KvAll K B rr s := by
  cases h with
  | d =>
    have w' : Dp K B v (dctD s) := w
    unfold dctD at w'
    generalize hm : (s.map fun kv => (keyD kv.1, kv.2)) = m at w'
    cases w' with
    | @dct p rr s' o h hk t =>
      obtain rfl := dct_inj hm
      exact ⟨p, rr, rfl, .inr ⟨o, k.exB _ _ h⟩, KvAll.of hk t⟩
  | o hs =>
    obtain ⟨v', as, h1, h2, _⟩ := k.ob (gS_some hs)
    have w' : gV σ _ = some v := w
    rw [w'] at h1
    cases h1
    cases h2 with
    | dk h t => exact ⟨_, _, rfl, .inl h, t⟩
theorem rd_get {H : Hp} {p : Addr} {r : List (Key × V)} {k : Key} (h : Rd H p (.dK r)) : DGet H p (kV k) (valV r k) := .inl ⟨r, k, h, rfl, rfl⟩
section
variable {X : Cx} {ρ ρ' ρ1 ρ2 ρ3 : Env'} {a b c e tg iter : Expr} {es : List Expr} {pos p apos : Pos} {xs ys : List PyData} {s : List (Key × PyData)} {r : R} {k : Key} {d z : PyData} {sts : List Stmt} {o : O} {i : Nat}
theorem di_is (h : xs = ys) (q : DI X ρ tg iter xs ρ1) : DI X ρ tg iter ys ρ1 := h ▸ q
/-- d[k] -/
theorem de_dix (hu : X.A.units + 100 < cLine) (hq : RD ρ2 r s) (hl : lkD s k = some d) (ho : DE X ρ a r ρ1) (he : DE X ρ1 b (.d (keyD k)) ρ2) (hnl : NoSl b := by intro _ _; rfl) : DE X ρ (.Subscript a b pos) (.d d) ρ2 := fun F Z B H σ Q kk q =>
  ⟨_, pe_dget (by omega) pe_s pe_s hnl, ho F Z B H σ _ kk fun v1 B1 H1 k1 x1 w1 => he F Z B1 H1 σ _ k1 fun v2 B2 H2 k2 x2 w2 => by
    obtain ⟨p, rr, rfl, h, t⟩ := hq.at k2 (w1.mono x2)
    obtain rfl := dp_key (show Dp X.K B2 v2 (keyD k) from w2)
    obtain ⟨v, hv, hd⟩ := (lkD_val t).2 d hl
    have g := rd_get (k := k) h
    rw [hv] at g
    exact ⟨p, v, rfl, g, q v B2 H2 k2 (x1.trans x2) hd⟩⟩
/-- d.get(k, z) -/
theorem de_dget2 (hu : X.A.units + 100 < cLine) (hq0 : RD ρ1 r s) (hq : RD ρ3 r s) (ho : DE X ρ a r ρ1) (he : DE X ρ1 b (.d (keyD k)) ρ2) (hf : DE X ρ2 c (.d z) ρ3) (m : M2 X a "get" apos b c pos := by exact ⟨rfl, rfl, rfl, rfl⟩) :
    DE X ρ (.Call (.Attribute a "get" apos) [b, c] [] pos) (.d ((lkD s k).getD z)) ρ3 := fun F Z B H σ Q kk q =>
  ⟨_, pe_dget2 (by omega) pe_s pe_s pe_s m, ho F Z B H σ _ kk fun v1 B1 H1 k1 x1 w1 => by
    obtain ⟨p, rr, rfl, h, t⟩ := hq0.at k1 w1
    refine ⟨p, rfl, .inl ⟨rr, h⟩, he F Z B1 H1 σ _ k1 fun v2 B2 H2 k2 x2 w2 => hf F Z B2 H2 σ _ k2 fun v3 B3 H3 k3 x3 w3 => ?_⟩
    obtain ⟨p', rr', e, h', t'⟩ := hq.at k3 ((w1.mono x2).mono x3)
    cases e
    obtain rfl := dp_key (show Dp X.K B2 v2 (keyD k) from w2)
    have g := rd_get (k := k) h'
    refine ⟨_, g, ?_⟩
    cases hl : lkD s k with
    | none =>
      rw [(lkD_val t').1 hl]
      exact q v3 B3 H3 k3 ((x1.trans x2).trans x3) (by rw [hl]; exact w3)
    | some d =>
      obtain ⟨v, hv, hd⟩ := (lkD_val t').2 d hl
      rw [hv]
      exact q v B3 H3 k3 ((x1.trans x2).trans x3) (by rw [hl]; exact hd)⟩
/-- d.get(k) -/
theorem de_dget1 (hu : X.A.units + 100 < cLine) (hq0 : RD ρ1 r s) (hq : RD ρ2 r s) (ho : DE X ρ a r ρ1) (he : DE X ρ1 b (.d (keyD k)) ρ2) (m : M1 X a "get" apos b pos := by exact ⟨rfl, rfl, rfl, rfl⟩) :
    DE X ρ (.Call (.Attribute a "get" apos) [b] [] pos) (.d ((lkD s k).getD .none)) ρ2 := fun F Z B H σ Q kk q =>
  ⟨_, pe_dget1 (by omega) pe_s pe_s m, ho F Z B H σ _ kk fun v1 B1 H1 k1 x1 w1 => by
    obtain ⟨p, rr, rfl, h, t⟩ := hq0.at k1 w1
    refine ⟨p, rfl, .inl ⟨rr, h⟩, he F Z B1 H1 σ _ k1 fun v2 B2 H2 k2 x2 w2 => ?_⟩
    obtain ⟨p', rr', e, h', t'⟩ := hq.at k2 (w1.mono x2)
    cases e
    obtain rfl := dp_key (show Dp X.K B2 v2 (keyD k) from w2)
    have g := rd_get (k := k) h'
    refine ⟨_, g, ?_⟩
    cases hl : lkD s k with
    | none =>
      rw [(lkD_val t').1 hl]
      exact q .non B2 H2 k2 (x1.trans x2) (by rw [hl]; exact .non)
    | some d =>
      obtain ⟨v, hv, hd⟩ := (lkD_val t').2 d hl
      rw [hv]
      exact q v B2 H2 k2 (x1.trans x2) (by rw [hl]; exact hd)⟩
/-- k in d, k not in d -/
theorem dt_din (hu : X.A.units + 100 < cLine) (hq : RD ρ2 r s) (ha : DE X ρ a (.d (keyD k)) ρ1) (hb : DE X ρ1 b r ρ2) (hm : behindInMarks .In b = false := by rfl) : DT X ρ (.Compare a [.In] [b] pos) (lkD s k).isSome ρ2 := fun F Z B H σ Q kk q =>
  ⟨_, pt_cmp (pc_din (by omega) pe_s pe_s) hm, ha F Z B H σ _ kk fun v1 B1 H1 k1 x1 w1 => hb F Z B1 H1 σ _ k1 fun v2 B2 H2 k2 x2 w2 => by
    obtain ⟨p, rr, rfl, h, t⟩ := hq.at k2 w2
    obtain rfl := dp_key (show Dp X.K B1 v1 (keyD k) from w1)
    exact ⟨p, _, rfl, rd_get h, _, rfl, by rw [lkD_some t]; exact q B2 H2 k2 (x1.trans x2)⟩⟩
theorem dt_dnotin (hu : X.A.units + 100 < cLine) (hq : RD ρ2 r s) (ha : DE X ρ a (.d (keyD k)) ρ1) (hb : DE X ρ1 b r ρ2) (hm : behindInMarks .NotIn b = false := by rfl) : DT X ρ (.Compare a [.NotIn] [b] pos) (!(lkD s k).isSome) ρ2 := fun F Z B H σ Q kk q =>
  ⟨_, pt_cmp (pc_dnotin (by omega) pe_s pe_s) hm, ha F Z B H σ _ kk fun v1 B1 H1 k1 x1 w1 => hb F Z B1 H1 σ _ k1 fun v2 B2 H2 k2 x2 w2 => by
    obtain ⟨p, rr, rfl, h, t⟩ := hq.at k2 w2
    obtain rfl := dp_key (show Dp X.K B1 v1 (keyD k) from w1)
    exact ⟨p, _, rfl, rd_get h, _, rfl, by rw [lkD_some t]; exact q B2 H2 k2 (x1.trans x2)⟩⟩
/-- dict(d), a copy -/
theorem df_dcopy (hq : RD ρ1 r s) (hm : X.mg "dict" = none) (h : DE X ρ e r ρ1) (hg : Gl X "dict" := by rfl) (he : starEach [e] X.env = (false, eval e X.env) :: starEach [] X.env := by rfl) (hpl : (backTo pos (starEach [] X.env)).any (·.1) = false := by rfl) :
    DF X ρ (.Call (.Name "dict" p) [e] [] pos) (.dk s) ρ1 := fun F Z B H σ Q kk q =>
  ⟨_, pe_callTy call_dictD hg hm PyProof.Rows.boot_dict (pa_cons pe_s pa_nil he) (by decide) (by decide) he hpl, h F Z B H σ _ kk fun v B1 H1 k1 x1 w1 => by
    obtain ⟨a, rr, rfl, hh, t⟩ := hq.at k1 w1
    refine ⟨a, rr, rfl, hh, fun l hl => ?_⟩
    exact q l B1 _ (k1.loose hl _) x1 (k1.laid hl _) (.dk upd_same t)⟩
/-- list(d) -/
theorem dl_dlist (hc : X.calm = true) (hq : RD ρ1 r s) (hm : X.mg "list" = none) (h : DE X ρ e r ρ1) (hg : Gl X "list" := by rfl) (he : starEach [e] X.env = (false, eval e X.env) :: starEach [] X.env := by rfl) (hpl : (backTo pos (starEach [] X.env)).any (·.1) = false := by rfl) :
    DL X ρ (.Call (.Name "list" p) [e] [] pos) (s.map fun kv => keyD kv.1) ρ1 := fun F Z B H σ Q kk q =>
  ⟨_, pe_callTy (call_listD hc) hg hm PyProof.Rows.boot_list (pa_cons pe_s pa_nil he) (by decide) (by decide) he hpl, h F Z B H σ _ kk fun v B1 H1 k1 x1 w1 => by
    obtain ⟨a, rr, rfl, hh, t⟩ := hq.at k1 w1
    refine ⟨a, rr, rfl, hh, fun l hl => ?_⟩
    have ks : ∀ {rr : List (Key × V)} {s : List (Key × PyData)}, KvAll X.K B1 rr s → DpAll X.K B1 (rr.map fun kv => kV kv.1) (s.map fun kv => keyD kv.1) := by
      intro rr s t
      induction t with
      | nil => exact .nil
      | cons _ _ ih => exact .cons (key_dp _) ih
    exact q l _ B1 _ (k1.loose hl _) x1 (k1.laid hl _) upd_same (ks t)⟩
/-- d[k] = v, d of our own -/
theorem ds_dput {kvs : List (Key × PyData)} {y : PyData} {pos' : Pos} (hu : X.A.units + 100 < cLine) (hz : kvs.length < 1000000) (hv : DE X ρ e (.d y) ρ1) (ho : DE X ρ1 a (.o i) ρ2) (hk : DE X ρ2 b (.d (keyD k)) ρ3)
    (hs3 : ρ3[i]? = some (.o (.dk kvs)) := by rfl) (hs : swapsWith e (some (.Subscript a b pos')) pos.line X.env = pure false := by rfl) : DS X ρ (.Assign [.Subscript a b pos'] e pos) (.nx (ρ3.set i (.o (.dk (putD kvs k y))))) := fun F Z B H σ D kk q =>
  ⟨_, ps_dput (by omega) pe_s pe_s pe_s hs, hv F Z B H σ _ kk fun v B1 H1 k1 x1 w1 => ho F Z B1 H1 σ _ k1 fun o B2 H2 k2 x2 w2 => hk F Z B2 H2 σ _ k2 fun iv B3 H3 k3 x3 w3 => by
    obtain ⟨v', as, g1, g2, g3⟩ := k3.ob (gS_some hs3)
    have w' : gV σ i = some o := w2
    rw [w'] at g1
    cases g1
    have d0 := g2
    have dv : Dp X.K B1 v y := w1
    obtain rfl := dp_key (show Dp X.K B3 iv (keyD k) from w3)
    cases g2 with
    | @dk aa r _ h t =>
    refine ⟨aa, _, rfl, DPut.k (k := k) h (by rw [t.length]; exact Nat.lt_of_lt_of_le hz (by decide)), ?_⟩
    exact q B3 _ σ (k3.turn (gS_some hs3) w' d0 (.dk upd_same (t.put (dp_mono (x2.trans x3) dv))) fun c hc => by
      rw [upd_ne fun z => hc (by rw [z]; exact List.mem_singleton.mpr rfl)]) ((x1.trans x2).trans x3)⟩
/-! ### dicts laid still -/
def tFrz (t : TE) : TE := fun σ H Q => t σ H fun v H1 => ∃ d u, v = .ref d ∧ H1 d = some u ∧ Mut (some u) ∧ ∀ od, Q v (upd H1 d (.frz od u))
theorem pe_frz {t : TE} (h : PE X e t) : PE X e (tFrz t) := by
  refine ⟨fun pins s σ H Q I hw => ?_⟩
  refine thn (h.run pins s σ _ _ I hw) fun v s1 ⟨x, H1, I2, rx, d, u, ex, hd, mu, q⟩ => ?_
  obtain ⟨od, I3⟩ := I2.lock hd mu
  exact ⟨x, _, I3, rx, q od⟩
def tFrzB (t : TS) : TS := fun D σ H => ∃ d u, H d = some u ∧ Mut (some u) ∧ ∀ od, t D σ (upd H d (.frz od u))
theorem pss_frz {t : TS} (h : PSs X sts t) : PSs X sts (tFrzB t) := by
  refine ⟨fun pins s σ H D I hw => ?_⟩
  obtain ⟨d, u, hd, mu, hw⟩ := hw
  obtain ⟨od, I1⟩ := I.lock hd mu
  exact h.run pins s σ _ _ I1 (hw od)
/-- a new dict, as data -/
theorem DF.de (h : DF X ρ e (.dk s) ρ1) : DE X ρ e (.d (dctD s)) ρ1 := fun F Z B H σ Q k q =>
  ⟨_, pe_frz pe_s, h F Z B H σ _ k fun p B' H' k' x n ob => by
    cases ob with
    | @dk _ r _ hp t =>
    refine ⟨p, _, rfl, hp, trivial, fun od => ?_⟩
    have k2 := k'.poke (o := .frz od (.dK r)) n
    have n2 := n.poke (o := .frz od (.dK r)) k'
    have xb := Sub.new (.frz od (.dK r)) n2.b
    exact q _ _ _ (k2.adopt n2 upd_same) (x.trans xb) (KvAll.dp upd_same (t.mono xb))⟩
theorem Ok.frz {K : PySem.W.Frag} {F : Hp} {Z : Addr → Prop} {B H : Hp} {σ : L2.St} (k : Ok K F Z B H σ ρ) (hs : gS ρ i = .o (.dk s)) :
    ∃ a r, H a = some (.dK r) ∧ ∀ od, ∃ B', Sub B B' ∧ Ok K F Z B' (upd H a (.frz od (.dK r))) σ (ρ.set i (.d (dctD s))) := by
  obtain ⟨v, as, g1, g2, g3⟩ := k.ob hs
  cases g2 with
  | @dk a r _ h t =>
  obtain ⟨f1, f2, f3⟩ := g3 a List.mem_cons_self
  have n : New K F Z B H σ (ρ.set i .un) a := by
    refine ⟨f1, f2, f3, fun j b v as q1 q2 q3 m => ?_⟩
    rw [gS_set] at q1
    split at q1
    · cases q1
    · rename_i hne
      obtain ⟨own, o1, o2, o3⟩ := k.own
      have e1 := o3 j
      rw [q1, q2] at e1
      have e2 := o3 i
      rw [hs, g1] at e2
      generalize hoj : own j = oj at e1
      generalize hoi : own i = oi at e2
      cases e1 with
      | o e1 =>
        cases e2 with
        | o e2 =>
          have z1 : oj = as := ObAt.uni e1 q3 fun _ _ => rfl
          have z2 : a ∈ oi := by cases e2; exact List.mem_cons_self
          have ji : j = i := o2 j i a (by rw [hoj, z1]; exact m) (by rw [hoi]; exact z2)
          have hl : i < ρ.length := by
            rcases Nat.lt_or_ge i ρ.length with z | z
            · exact z
            · unfold gS at hs
              rw [List.getElem?_eq_none z] at hs
              cases hs
          exact hne ⟨ji, hl⟩
  have same : σ.set i (some (.ref a)) = σ := by
    apply List.ext_getElem?
    intro m
    by_cases em : m = i
    · subst em
      by_cases hl : m < σ.length
      · rw [List.getElem?_set_self hl, gV_some g1]
      · have := List.getElem?_eq_none (Nat.le_of_not_lt hl)
        rw [gV_some g1] at this
        cases this
    · rw [List.getElem?_set_ne (Ne.symm em)]
  have ku : Ok K F Z B H σ (ρ.set i .un) := by
    have q := k.setN (i := i) (a := some (.ref a))
    rw [same] at q
    exact q
  refine ⟨a, r, h, fun od => ?_⟩
  have k2 := ku.poke (o := .frz od (.dK r)) n
  have n2 := n.poke (o := .frz od (.dK r)) ku
  have xb := Sub.new (.frz od (.dK r)) n2.b
  have k3 := k2.adopt n2 upd_same
  have k4 := k3.setD (i := i) (v := .ref a) (x := dctD s) (KvAll.dp upd_same (t.mono xb))
  rw [same, List.set_set] at k4
  exact ⟨_, xb, k4⟩
theorem db_frz {i : Nat} (t : DB X (ρ.set i (.d (dctD s))) sts o) (hs : ρ[i]? = some (.o (.dk s)) := by rfl) : DB X ρ sts o := fun F Z B H σ D k q => by
  obtain ⟨a, r, h, hh⟩ := k.frz (gS_some hs)
  refine ⟨_, pss_frz pb_s, a, _, h, trivial, fun od => ?_⟩
  obtain ⟨B', x, k'⟩ := hh od
  exact t F Z B' _ σ D k' (q.sub x)
/-! ### going through a dict laid still -/
theorem dct_at {K : PySem.W.Frag} {B : Hp} {v : V} (w : Dp K B v (dctD s)) : ∃ p rr o, v = .ref p ∧ B p = some (.frz o (.dK rr)) ∧ KvAll K B rr s := by
  unfold dctD at w
  generalize hm : (s.map fun kv => (keyD kv.1, kv.2)) = m at w
  cases w with
  | @dct p rr s' o h hk t =>
    obtain rfl := dct_inj hm
    exact ⟨p, rr, o, rfl, h, KvAll.of hk t⟩
theorem KvAll.get {K : PySem.W.Frag} {B : Hp} : ∀ {r : List (Key × V)} {s : List (Key × PyData)} {i : Nat} {k : Key} {v : V}, KvAll K B r s → r[i]? = some (k, v) → ∃ d, s[i]? = some (k, d) ∧ Dp K B v d
  | _, _, _, _, _, .nil, e => by simp at e
  | _, _, 0, _, _, .cons h _, e => by simp at e; obtain ⟨rfl, rfl⟩ := e; exact ⟨_, rfl, h⟩
  | _, _, i + 1, k, v, .cons _ t, e => by
    obtain ⟨d, h1, h2⟩ := KvAll.get (i := i) (k := k) (v := v) t (by simpa using e)
    exact ⟨d, by simpa using h1, h2⟩
theorem di_dkeys (h : DE X ρ iter (.d (dctD s)) ρ1) : DI X ρ tg iter (s.map fun kv => keyD kv.1) ρ1 := fun F Z B H σ Q k q =>
  ⟨_, pi_keys pe_s, h F Z B H σ _ k fun v B1 H1 k1 x1 w => by
    obtain ⟨p, rr, o, rfl, hb, t⟩ := dct_at w
    refine ⟨p, o, rfl, .inl ⟨rr, k1.exB _ _ hb, q _ _ _ _ B1 H1 k1 x1 (by rw [List.length_map]; exact t.length) walk_keys (fun B2 H2 y1 y2 => y2 _ _ (y1 _ _ hb)) ?_⟩⟩
    rintro F2 Z2 B2 H2 σ2 ρ2 i v H3 k2 y2 hi ⟨rfl, kk, vv, hv, rfl⟩
    obtain ⟨d, h1, h2⟩ := t.get hv
    exact ⟨B2, keyD kk, by rw [List.getElem?_map, h1]; rfl, k2, Sub.refl B2, key_dp kk⟩⟩
theorem di_dvals (h : DE X ρ a (.d (dctD s)) ρ1) (hbase : attributeBase a "values" X.env (eval a X.env) = eval a X.env := by rfl) (hline : (apos.endLine == pos.line) = true := by rfl) : DI X ρ tg (.Call (.Attribute a "values" apos) [] [] pos) (s.map (·.2)) ρ1 := fun F Z B H σ Q k q =>
  ⟨_, pi_values pe_s hbase hline, h F Z B H σ _ k fun v B1 H1 k1 x1 w => by
    obtain ⟨p, rr, o, rfl, hb, t⟩ := dct_at w
    refine ⟨p, o, rr, rfl, k1.exB _ _ hb, q _ _ _ _ B1 H1 k1 x1 (by rw [List.length_map]; exact t.length) walk_values (fun B2 H2 y1 y2 => y2 _ _ (y1 _ _ hb)) ?_⟩
    rintro F2 Z2 B2 H2 σ2 ρ2 i v H3 k2 y2 hi ⟨rfl, kk, hv⟩
    obtain ⟨d, h1, h2⟩ := t.get hv
    exact ⟨B2, d, by rw [List.getElem?_map, h1]; rfl, k2, Sub.refl B2, dp_mono y2 h2⟩⟩
end
end G

set_option Elab.async false
set_option linter.all false
set_option maxRecDepth 100000
set_option maxHeartbeats 4000000
/- d.update(e); dict(pairs) with keys of all kinds; defs that return something new -/
namespace G
open PySem L2 PySem.Spec PyProof.Rows
def putAllD (s t : List (Key × PyData)) : List (Key × PyData) := t.foldl (fun acc p => putD acc p.1 p.2) s
theorem KvAll.putAll {K : PySem.W.Frag} {B : Hp} : ∀ {r2 : List (Key × V)} {s2 : List (Key × PyData)} {r : List (Key × V)} {s : List (Key × PyData)}, KvAll K B r2 s2 → KvAll K B r s → KvAll K B (mergeK r r2) (putAllD s s2)
  | _, _, _, _, .nil, h0 => h0
  | _, _, r0, s0, .cons (k := k) (v := v) (d := d) (r := r) (s := s) h t, h0 => by
    have q : KvAll K B (mergeK (putK r0 k v) r) (putAllD (putD s0 k d) s) := KvAll.putAll t (h0.put (k := k) h)
    exact q
theorem putAllD_len : ∀ (t s : List (Key × PyData)), (putAllD s t).length ≤ s.length + t.length
  | [], s => Nat.le_refl _
  | p :: t, s => by
    have h1 := putAllD_len t (putD s p.1 p.2)
    have h2 := putD_len (kvs := s) (k := p.1) (d := p.2)
    show (putAllD (putD s p.1 p.2) t).length ≤ _
    rw [List.length_cons]
    omega
section
variable {X : Cx} {pins : List (Addr × Obj)} {σ : L2.St} {H : Hp} {s : Shared} {a b : Addr} {r r2 : List (Key × V)}
theorem dk_upd {E : Value → Shared → Prop} {Q : Value → Shared → Prop} (I : Inv X pins σ H s) (h : H a = some (.dK r)) (h2 : Rd H b (.dK r2)) (hab : a ≠ b) (hz : r.length + r2.length ≤ 1000000)
    (q : ∀ s', Inv X pins σ (upd H a (.dK (mergeK r r2))) s' → Q .none s') : wpAny (model X.prog X.w) X.A (call (.builtin "dict.update") [.ref a, .ref b]) Q E s := by
  obtain ⟨z1, lo1, vs, kv, hD⟩ := dk_of I.hok h
  obtain ⟨z2, lo2, ws, kw, hD2⟩ := dk_rd I.hok h2
  have z0 : (1000000 : Nat) ≤ sizeLine := by decide
  refine call_meetsIn PySem.F.slot_dict_update hD.typeIs PySem.F.entry_dict_update (PySem.F.args_dict_update_2 _ _) (meets_dict_update (mixKind X.prog X.w) a b hab lo2)
    ⟨vs, ws, hD, hD2, (by rw [← kv.length, ← kw.length]; omega), fun h' hmm _ hs => ?_⟩
  have hlen : (mergeK r r2).length ≤ sizeLine := Nat.le_trans (length_mergeK r2 r) (by omega)
  obtain ⟨o, ho⟩ : ∃ o, h'.get? a = some o := by obtain ⟨o, _, _, ho, _⟩ := hmm; exact ⟨o, ho⟩
  exact q _ (I.write (e := a) (o := .dK (mergeK r r2)) (by rw [h]; trivial) (.inl rfl) (fun c u hc e => (hs.2 c hc).trans e) ⟨o, ho⟩ (show ObjOk X.prog X.w _ _ _ (.dK (mergeK r r2)) from ⟨hlen, lo1, _, kw.merge kv, hmm⟩))
end
section
variable {X : Cx} {ρ ρ' ρ1 ρ2 ρ3 : Env'} {a b c e : Expr} {es : List Expr} {pos p : Pos} {xs ys : List PyData} {sts rest as bs : List Stmt} {st : Stmt} {i : Nat} {b0 : Ob} {r : R} {s s2 : List (Key × PyData)}
/-- d.update(e) -/
theorem pe_dkUpd {ta : TA} {to : TE} {apos : Pos} (ho : PE X a to) (ha : PA X [e] ta) (hbase : attributeBase a "update" X.env (eval a X.env) = eval a X.env := by rfl)
    (hfew : ((backTo p (starEach [e] X.env)).all (fun x => !x.1) && (backToKw p (keywordEach [] X.env)).all (fun x => x.1.isSome) && decide ([e].length + ([] : List Keyword).length + (if ([] : List Keyword).isEmpty then 0 else 1) < 30)) = true := by rfl)
    (hline : (apos.endLine == p.line) = true := by rfl) (hs : starEach [e] X.env = (false, eval e X.env) :: starEach [] X.env := by rfl) (hpl : (backTo p (starEach [] X.env)).any (·.1) = false := by rfl) :
    PE X (.Call (.Attribute a "update" apos) [e] [] p) (fun σ H Q => to σ H fun x H1 => ∃ d r, x = .ref d ∧ H1 d = some (.dK r) ∧
      ta σ H1 fun vs H2 => ∃ b r r2, vs = [.ref b] ∧ H2 d = some (.dK r) ∧ Rd H2 b (.dK r2) ∧ d ≠ b ∧ r.length + r2.length ≤ 1000000 ∧ Q .non (upd H2 d (.dK (mergeK r r2)))) := by
  refine ⟨fun pins s σ H Q I h => ?_⟩
  refine wpAny_Call_method_late hbase hfew hline rfl (thn (ho.run pins s σ H _ I h) fun v s1 ⟨x, H1, I1, r1, d, r, ex, hd, q1⟩ => ?_)
  subst ex
  obtain rfl : v = Value.ref d := r1
  obtain ⟨_, _, vs, _, hm⟩ := dk_of I1.hok hd
  refine ⟨"dict", "dict.update", PySem.F.plainAttrs_dict, PySem.F.slot_dict_update, PySem.F.type_dict_update, hm.typeIs, fun a ea => ?_, ?_⟩
  · cases ea
    obtain ⟨o, es, ep, ho', hc, _⟩ := hm
    exact ⟨o, ho', hc.2.1⟩
  · have hA := ha.run p pins s1 σ H1 _ I1 q1
    rw [hs] at hA ⊢
    refine Calls.callWith_builtin (by show (false || (backTo p (starEach [] X.env)).any (·.1)) = false; rw [hpl] <;> rfl) (Calls.evalArgs_plain ?_)
    refine thn hA fun us s2 ⟨vs, H2, I2, r2, b, r, r3, ev, g1, g2, g3, g4, q2⟩ => ?_
    subst ev
    cases r2 with
    | cons r r' =>
      cases r'
      cases r
      exact dk_upd I2 g1 g2 g3 g4 fun s' I' => ⟨.non, _, I', rfl, q2⟩
theorem ds_dupd {apos : Pos} (h0 : DE X ρ a (.o i) ρ1) (h : DF X ρ1 e (.dk s2) ρ2) (hz : s.length + s2.length ≤ 1000000) (hs0 : ρ1[i]? = some (.o (.dk s)) := by rfl) (hs2 : ρ2[i]? = some (.o (.dk s)) := by rfl)
    (hbase : attributeBase a "update" X.env (eval a X.env) = eval a X.env := by rfl)
    (hfew : ((backTo p (starEach [e] X.env)).all (fun x => !x.1) && (backToKw p (keywordEach [] X.env)).all (fun x => x.1.isSome) && decide ([e].length + ([] : List Keyword).length + (if ([] : List Keyword).isEmpty then 0 else 1) < 30)) = true := by rfl)
    (hline : (apos.endLine == p.line) = true := by rfl) (hs : starEach [e] X.env = (false, eval e X.env) :: starEach [] X.env := by rfl) (hpl : (backTo p (starEach [] X.env)).any (·.1) = false := by rfl)
    (hsw : swapsWith (.Call (.Attribute a "update" apos) [e] [] p) none pos.line X.env = pure false := by rfl) :
    DS X ρ (.Expr (.Call (.Attribute a "update" apos) [e] [] p) pos) (.nx (ρ2.set i (.o (.dk (putAllD s s2))))) := fun F Z B H σ D k q =>
  ⟨_, ps_expr (pe_dkUpd pe_s (pa_cons pe_s pa_nil hs) hbase hfew hline hs hpl) hsw, h0 F Z B H σ _ k fun v B1 H1 k1 x1 w1 => by
    obtain ⟨v', as, g1, g2, _⟩ := k1.ob (gS_some hs0)
    have w' : gV σ i = some v := w1
    rw [w'] at g1
    cases g1
    cases g2 with
    | @dk d r _ d1 t1 =>
    refine ⟨d, r, rfl, d1, h F Z B1 H1 σ _ k1 fun c B2 H2 k2 x2 n ob => ?_⟩
    obtain ⟨v', as, g1, g2, g3⟩ := k2.ob (gS_some hs2)
    rw [w'] at g1
    cases g1
    have d0 := g2
    cases g2 with
    | @dk _ r' _ d2 t2 =>
    cases ob with
    | @dk _ r3 _ d3 t3 =>
    have ne : d ≠ c := fun e => by
      obtain ⟨own, o1, o2, o3⟩ := k2.own
      exact n.o i _ _ _ (gS_some hs2) w' d0 (by rw [e]; exact List.mem_singleton.mpr rfl)
    refine ⟨c, r', r3, rfl, d2, .inl d3, ne, by rw [t2.length, t3.length]; exact hz, ?_⟩
    exact q B2 _ σ (k2.turn (gS_some hs2) w' d0 (.dk upd_same (t3.putAll t2)) fun c hc => by
      rw [upd_ne fun z => hc (by rw [z]; exact List.mem_singleton.mpr rfl)]) (x1.trans x2)⟩
/-- dict(pairs) -/
def pairK (p : Key × PyData) : PyData := .tuple [keyD p.1, p.2]
theorem pairsK {K : PySem.W.Frag} {B : Hp} : ∀ {kvs : List (Key × PyData)} {vs : List V}, DpAll K B vs (kvs.map pairK) → ∃ (ps : List Addr) (rs : List (Key × V)), vs = ps.map V.ref ∧ KvAll K B rs kvs ∧ Paired (fun p (kv : Key × V) => SqT K B p [kV kv.1, kv.2]) ps rs
  | [], _, h => by cases h; exact ⟨[], [], rfl, .nil, .nil⟩
  | p :: kvs, _, h => by
    cases h with
    | cons h t =>
      obtain ⟨ps, rs, e1, e2, e3⟩ := pairsK t
      cases h with
      | @tup T us _ s n r =>
        cases r with
        | @cons v1 _ _ _ h1 r =>
          cases r with
          | @cons v2 _ _ _ h2 r =>
            cases r
            obtain rfl := dp_key h1
            exact ⟨T :: ps, (p.1, v2) :: rs, by rw [e1]; rfl, .cons h2 e2, .cons s e3⟩
theorem df_dict (hc : X.calm = true) (h : DLd X ρ e (s.map pairK) ρ1) (hm : X.mg "dict" = none) (hg : Gl X "dict" := by rfl) (he : starEach [e] X.env = (false, eval e X.env) :: starEach [] X.env := by rfl) (hpl : (backTo pos (starEach [] X.env)).any (·.1) = false := by rfl) :
    DF X ρ (.Call (.Name "dict" p) [e] [] pos) (.dk (putAllD [] s)) ρ1 := fun F Z B H σ Q k q =>
  ⟨_, pe_callTy (call_dictP hc) hg hm PyProof.Rows.boot_dict (pa_cons pe_s pa_nil he) (by decide) (by decide) he hpl, h F Z B H σ _ k fun a us B1 H1 k1 x1 hs t => by
    obtain ⟨ps, rs, e1, e2, e3⟩ := pairsK t
    subst e1
    have mono : ∀ {l : List Addr} {m : List (Key × V)}, Paired (fun p (kv : Key × V) => SqT X.K B1 p [kV kv.1, kv.2]) l m → Paired (fun p (kv : Key × V) => SqT X.K H1 p [kV kv.1, kv.2]) l m := by
      intro l m r
      induction r with
      | nil => exact .nil
      | cons h _ ih => exact .cons (h.imp k1.exB.rd id) ih
    refine ⟨a, ps, rs, rfl, hs, mono e3, fun l hl => ?_⟩
    exact q l B1 _ (k1.loose hl _) x1 (k1.laid hl _) (.dk upd_same (e2.putAll .nil))⟩
/-! ### defs that return something new -/
def DBo (X : Cx) (ρ : Env') (sts : List Stmt) (b : Ob) : Prop := ∀ F Z B H σ D, Ok X.K F Z B H σ ρ →
  (∀ p B' H' σ' ρ', Ok X.K F Z B' H' σ' ρ' → Sub B B' → F p = none → B' p = none → ¬ Z p → ObAt X.K B' H' (.ref p) [p] b → D.rt (.ref p) H') → sB X sts D σ H
theorem dbo_cons (h : DS X ρ st (.nx ρ1)) (t : DBo X ρ1 rest b0) : DBo X ρ (st :: rest) b0 := fun F Z B H σ D k q =>
  ⟨_, pss_cons ps_s pb_s, h F Z B H σ { D with nx := fun σ' H' => sB X rest D σ' H' } k fun B' H' σ' k' x => t F Z B' H' σ' D k' fun p B2 H2 σ2 ρ2 k2 x2 => q p B2 H2 σ2 ρ2 k2 (x.trans x2)⟩
theorem dbo_at (ρ2 : Env') (e : ρ = ρ2) (h : DBo X ρ2 sts b0) : DBo X ρ sts b0 := e ▸ h
theorem dbo_retF (h : DF X ρ e b0 ρ1) : DBo X ρ [.Return (some e) pos] b0 := fun F Z B H σ D k q =>
  ⟨_, pss_one (ps_ret pe_s), h F Z B H σ _ k fun p B' H' k' x n ob => q p B' H' σ ρ1 k' x n.f n.b n.z ob⟩
theorem dbo_retO {l : List PyData} (h : DE X ρ e (.o i) ρ1) (hs : ρ1[i]? = some (.o (.lst l)) := by rfl) : DBo X ρ [.Return (some e) pos] (.lst l) := fun F Z B H σ D k q =>
  ⟨_, pss_one (ps_ret pe_s), h F Z B H σ _ k fun v B' H' k' x w => by
    obtain ⟨v', as, g1, g2, g3⟩ := k'.ob (gS_some hs)
    have w' : gV σ i = some v := w
    rw [w'] at g1
    cases g1
    have g := g2
    cases g2 with
    | @lst a _ _ h1 t1 =>
    obtain ⟨f1, f2, f3⟩ := g3 a List.mem_cons_self
    exact q a B' H' σ ρ1 k' x f1 f2 f3 g⟩
/-- either of two that is returned, a new list -/
theorem dbo_retE {x : Bool} {l : List PyData} {i : Nat} (hc : DT X ρ c x ρ1) (h1 : x = true → DE X ρ1 a (.o i) ρ2 ∧ ρ2[i]? = some (.o (.lst l))) (h2 : x = false → DL X ρ1 b l ρ2) : DBo X ρ [.Return (some (.IfExp c a b p)) pos] (.lst l) := fun F Z B H σ D k q =>
  ⟨_, pss_one (ps_ret (pe_ifExp pt_s pe_s pe_s)), hc F Z B H σ _ k fun B1 H1 k1 x1 => by
    cases x with
    | true =>
      rw [if_pos rfl]
      obtain ⟨h, hs⟩ := h1 rfl
      refine h F Z B1 H1 σ _ k1 fun v B' H' k' x w => ?_
      obtain ⟨v', as, g1, g2, g3⟩ := k'.ob (gS_some hs)
      have w' : gV σ i = some v := w
      rw [w'] at g1
      cases g1
      have g := g2
      cases g2 with
      | @lst a _ _ h1 t1 =>
      obtain ⟨f1, f2, f3⟩ := g3 a List.mem_cons_self
      exact q a B' H' σ ρ2 k' (x1.trans x) f1 f2 f3 g
    | false =>
      rw [if_neg (by decide)]
      exact h2 rfl F Z B1 H1 σ _ k1 fun p us B' H' k' x n hp t => q p B' H' σ ρ2 k' (x1.trans x) n.f n.b n.z (.lst hp t)⟩
theorem dl_ifE {x : Bool} (h : DT X ρ c x ρ1) (h1 : x = true → DL X ρ1 a xs ρ2) (h2 : x = false → DL X ρ1 b xs ρ2) : DL X ρ (.IfExp c a b pos) xs ρ2 := fun F Z B H σ Q k q =>
  ⟨_, pe_ifExp pt_s pe_s pe_s, h F Z B H σ _ k fun B1 H1 k1 x1 => by
    cases x with
    | true =>
      rw [if_pos rfl]
      exact h1 rfl F Z B1 H1 σ Q k1 fun p us B2 H2 k2 x2 n hp t => q p us B2 H2 k2 (x1.trans x2) n hp t
    | false =>
      rw [if_neg (by decide)]
      exact h2 rfl F Z B1 H1 σ Q k1 fun p us B2 H2 k2 x2 n hp t => q p us B2 H2 k2 (x1.trans x2) n hp t⟩
theorem da_starQ (hq : RQ ρ1 r xs) (h : DE X ρ e r ρ1) (t : DA X ρ1 es ys ρ2) (hs : starEach (.Starred e p :: es) X.env = (true, eval e X.env) :: starEach es X.env := by rfl) : DA X ρ (.Starred e p :: es) (xs ++ ys) ρ2 := fun F Z B H σ Q k q =>
  ⟨_, StX.pa_star pe_s pa_s hs, h F Z B H σ _ k fun v B1 H1 k1 x1 w => by
    obtain ⟨a, vs, rfl, s, t0⟩ := hq.at k1 w
    exact ⟨a, vs, rfl, s.symm, t F Z B1 H1 σ _ k1 fun us B2 H2 k2 x2 t2 => q _ B2 H2 k2 (x1.trans x2) (G.DpAll.append (dpAll_mono x2 t0) t2)⟩⟩
def spO (K : PySem.W.Frag) (Φ : List PyData → Ob → Prop) : Sp := fun vs H Q _ => ∃ F Z B ds b, Φ ds b ∧ Ok K F Z B H (vs.map some) (ds.map Sl.d) ∧
  ∀ p B' H', Ok K F Z B' H' (vs.map some) (ds.map Sl.d) → Sub B B' → F p = none → B' p = none → ¬ Z p → ObAt K B' H' (.ref p) [p] b → Q (.ref p) H'
theorem fnO_of {P : Program} {w : World} {K : PySem.W.Frag} {mg : Str → Option Value} {base : Heap} {x qual : Str} {sd : Stmt} {f : Addr} {fd : FuncData} {N ps : List Str} {k : Nat} {Φ : List PyData → Ob → Prop} (Fn : Fun K x qual sd f fd) (S : FnScope N ps (defScope sd)) (len : ∀ ds d, Φ ds d → ds.length = ps.length)
    (body : ∀ (cdv : Value) (A : Around) (outer : List Env) (s : Shared) (H : Hp) (E : XK) (ds : List PyData) (d : Ob), A.guards = some [] → Room k (A.deeper (envOfC qual (defScope sd) s.heap.objs.size f cdv)) → Φ ds d →
      DBo (cxOf L2.CX0 P w K mg base N qual (defScope sd) f cdv A outer s H E).nox (ds.map Sl.d ++ List.replicate (N.length - ds.length) .un) (defBody sd) d) :
    FnG P w K mg base (k + 1) f fd ps (spO K Φ) := by
  refine fnG_of Fn S ?_ ?_
  · rintro vs H Q E ⟨F, Z, B, ds, d, h, k, _⟩
    have e := k.len
    rw [List.length_map, List.length_map] at e
    rw [e, len ds d h]
  · rintro cdv A outer s H vs Q E hg hr ⟨F, Z, B, ds, d, h, k, q⟩
    have hb := body cdv A outer s H E ds d hg hr h
    have e := k.len
    rw [List.length_map, List.length_map] at e
    have kk := k.app (N.length - ds.length)
    refine ⟨_, pb_s, hb F Z B H _ _ (by unfold L2.start; rw [e]; exact kk) fun p B' H' σ' ρ' k' y f1 f2 f3 ob => ?_⟩
    obtain ⟨own, _, _, h3⟩ := k.own
    have rd : DpAll K B vs ds := dpAll_of vs ds e h3
    exact q p B' H' (okD k'.exF k'.exB k'.z (dpAll_mono y rd)) y f1 f2 f3 ob
theorem df_callO {x : Str} {k : Nat} {f : Addr} {fd : FuncData} {ps : List Str} {ds : List PyData} {Φ : List PyData → Ob → Prop} (Fn : FnG X.prog X.w X.K X.mg X.base k f fd ps (spO X.K Φ)) (hgd : X.A.guards = some []) (hr : Room k X.A) (hm : X.mg x = some (.ref f)) (hk : PySem.W.keepIn X.K (.ref f) = true) (hb : Binds X.K fd ps [])
    (hΦ : Φ ds b0) (h : DA X ρ (e :: es) ds ρ1) (hg : Gl X x := by rfl) (hdb : (x == ("__debug__" : Str)) = false := by decide) (he : starEach (e :: es) X.env = (false, eval e X.env) :: starEach es X.env := by rfl)
    (hpl : (backTo pos (starEach es X.env)).any (·.1) = false := by rfl) : DF X ρ (.Call (.Name x p) (e :: es) [] pos) b0 ρ1 := fun F Z B H σ Q k' q =>
  ⟨_, pe_callG Fn hgd hr hg hm hk hb pa_s hdb he hpl, h F Z B H σ _ k' fun vs B1 H1 k1 x1 tt => by
    show spO X.K Φ (vs ++ []) H1 _ L2.E0
    rw [List.append_nil]
    refine ⟨H1, fun b => H1 b ≠ none ∧ B1 b = none, B1, ds, b0, hΦ, okD (Sub.refl H1) k1.exB (fun b hb => ⟨hb.2, Option.ne_none_iff_exists'.mp hb.1⟩) tt, fun a B2 H2 k2 y f1 f2 f3 ob => ?_⟩
    have k3 := k1.grow y k2.exF k2.exB fun b hb hb' => (k2.z b ⟨hb, hb'⟩).1
    obtain ⟨z1, z2, z3⟩ := k1.fresh f1
    refine q a B2 H2 k3 (x1.trans y) ⟨z1, f2, z3, fun j b v as g1 g2 g3 m => ?_⟩ ob
    obtain ⟨v', as', f1', f2', f3'⟩ := k1.ob g1
    rw [g2] at f1'
    cases f1'
    have e : as = as' := ObAt.uni g3 f2' fun d hd => by
      obtain ⟨o, ho⟩ := f2'.live d hd
      rw [ho, k2.exF d o ho]
    rw [e] at m
    obtain ⟨o, ho⟩ := f2'.live _ m
    rw [f1] at ho; cases ho⟩
theorem DF.dl (h : DF X ρ e (.lst xs) ρ1) : DL X ρ e xs ρ1 := fun F Z B H σ Q k q => h F Z B H σ Q k fun p B' H' k' x n ob => by
  cases ob with
  | lst hp t => exact q p _ B' H' k' x n hp t
end
end G

set_option Elab.async false
set_option linter.all false
set_option maxRecDepth 100000
set_option maxHeartbeats 4000000
/- zip of any two of lists and tuples: walked, and dict(zip(..)) -/
namespace G
open PySem L2 PySem.Spec PyProof.Rows
/-- a list (true) or a tuple -/
def SqB (t : Bool) (K : PySem.W.Frag) (H : Hp) (a : Addr) (xs : List V) : Prop := match t with
  | true => SqL K H a xs
  | false => SqT K H a xs
theorem SqB.imp {t : Bool} {K : PySem.W.Frag} {H H' : Hp} {a : Addr} {xs : List V} (h : SqB t K H a xs) (x : Sub H H') : SqB t K H' a xs := by
  cases t
  · exact Or.imp x.rd id h
  · exact Or.imp x.rd id h
section
variable {X : Cx} {pins : List (Addr × Obj)} {σ : L2.St} {H : Hp} {s : Shared}
theorem SqB.raw {t : Bool} {a : Addr} {xs : List V} (I : Inv X pins σ H s) (h : SqB t X.K H a xs) : ∃ its : List Value, Vals xs its ∧ IsSq t s.heap a its.toArray := by
  cases t
  · obtain ⟨its, rv, p, _⟩ := I.tuple h
    exact ⟨its, rv, p⟩
  · obtain ⟨its, rv, p, _⟩ := I.list h
    exact ⟨its, rv, p.isList⟩
theorem SqB.inj {t : Bool} {a : Addr} {xs ys : List V} (I : Inv X pins σ H s) (h : SqB t X.K H a xs) (h' : SqB t X.K H a ys) : xs = ys := by
  cases t
  · exact I.tuple_inj h h'
  · exact I.list_inj h h'
end
theorem IsSq.lt {t : Bool} {h : Heap} {a : Addr} {xs : Array Value} (q : IsSq t h a xs) : a < h.objs.size := by
  cases t
  · obtain ⟨_, e, _⟩ := q; exact Heap.lt_size e
  · obtain ⟨_, e, _⟩ := q; exact Heap.lt_size e
/-- an iterator alone -/
def ItB (t : Bool) (h : Heap) (it l : Addr) (k : Nat) : Prop := match t with
  | true => h.IsListIter it l k
  | false => h.IsTupleIter it l k
theorem ItB.and {t : Bool} {h : Heap} {it l : Addr} {k : Nat} {xs : Array Value} (a : ItB t h it l k) (b : IsSq t h l xs) : SqI t h it l k xs := by
  cases t
  · exact ⟨a, b⟩
  · exact ⟨a, b⟩
theorem SqI.it {t : Bool} {h : Heap} {it l : Addr} {k : Nat} {xs : Array Value} (a : SqI t h it l k xs) : ItB t h it l k := by
  cases t
  · exact a.1
  · exact a.1
theorem ItB.keep {t : Bool} {h h' : Heap} {it l : Addr} {k : Nat} (a : ItB t h it l k) (e : ∀ o, h.get? it = some o → h'.get? it = some o) : ItB t h' it l k := by
  cases t
  · exact Heap.IsTupleIter.at a e
  · exact Heap.IsListIter.at a e
theorem ItB.obj {t : Bool} {h : Heap} {it l : Addr} {k : Nat} (a : ItB t h it l k) : ∃ o, h.get? it = some o ∧ ∀ v, o.data ≠ .cell v := by
  cases t
  · obtain ⟨o, e, _, d⟩ := a; exact ⟨o, e, fun v z => by rw [d] at z; cases z⟩
  · obtain ⟨o, e, _, d⟩ := a; exact ⟨o, e, fun v z => by rw [d] at z; cases z⟩
/-- what stands at a and b, the items in new pairs -/
def ItzQ (K : PySem.W.Frag) (t1 t2 : Bool) (a b : Addr) : It :=
  ⟨fun i H => ∃ (xs ys : List V) (x y : V), SqB t1 K H a xs ∧ SqB t2 K H b ys ∧ xs[i]? = some x ∧ ys[i]? = some y,
    fun i H v H' => ∃ T x y o, v = .ref T ∧ H T = none ∧ H' = upd H T (.frz o (.tup [x, y])) ∧ o.dict = none ∧ o.cls = .type "tuple" ∧ (∀ xs, SqB t1 K H a xs → xs[i]? = some x) ∧ ∀ ys, SqB t2 K H b ys → ys[i]? = some y,
    fun i H => ∃ xs ys : List V, SqB t1 K H a xs ∧ SqB t2 K H b ys ∧ (xs.length ≤ i ∨ ys.length ≤ i)⟩
theorem turn_zipQ {P : Program} {w : World} {K : PySem.W.Frag} {elts : List Expr} {kk : Nat} {tpos : Pos} {t1 t2 : Bool} {a b z TI TO i1 i2 : Addr} (D : ZipApart z TI TO i1 i2 a b) :
    Turn P w K (.Tuple elts kk tpos) (ItzQ K t1 t2 a b) [z, TI, TO, i1, i2] z (fun i h => IsZip h z TI TO .none ∧ IsPair h TI (.ref i1) (.ref i2) ∧ (∃ x y, IsPair h TO x y) ∧ ItB t1 h i1 a i ∧ ItB t2 h i2 b i) where
  mem := by simp
  obj := by
    rintro i h ⟨hz, hTI, ⟨x, y, hTO⟩, h1, h2⟩ c hc
    rcases (show c = z ∨ c = TI ∨ c = TO ∨ c = i1 ∨ c = i2 by simpa using hc) with q | q | q | q | q
    · rw [q]; exact ⟨_, hz, fun v q => nomatch q⟩
    · rw [q]; exact ⟨_, hTI, fun v q => nomatch q⟩
    · rw [q]; exact ⟨_, hTO, fun v q => nomatch q⟩
    · rw [q]; exact h1.obj
    · rw [q]; exact h2.obj
  keep := by
    rintro i h h' ⟨hz, hTI, ⟨x, y, hTO⟩, h1, h2⟩ k
    exact ⟨k z (by simp) _ hz, k TI (by simp) _ hTI, ⟨x, y, k TO (by simp) _ hTO⟩, h1.keep fun o q => k i1 (by simp) o q, h2.keep fun o q => k i2 (by simp) o q⟩
  item := by
    intro X hP hw hK hc i pins s σ H E I hf st hg
    subst hP hw hK
    obtain ⟨hz, hTI, ⟨x0, y0, hTO⟩, h1, h2⟩ := st
    obtain ⟨xs, ys, x, y, hqx, hqy, hx, hy⟩ := hg
    obtain ⟨its, rv, p⟩ := hqx.raw I
    obtain ⟨its2, rv2, p2⟩ := hqy.raw I
    obtain ⟨u, hu, ru⟩ := rv.get hx
    obtain ⟨u2, hu2, ru2⟩ := rv2.get hy
    have hzl : z < s.heap.objs.size := Heap.lt_size hz
    obtain ⟨_, e1, _⟩ := h1.obj
    obtain ⟨_, e2, _⟩ := h2.obj
    refine pn_item D hz hTI hTO (h1.and p) (h2.and p2) (x := u) (y := u2) (by simpa using hu) (by simpa using hu2) fun h' z' TO' h1' h2' hT hsz hk => ?_
    refine ⟨_, rfl, wpAny_letOwnedTupleGo_zip (s := { s with heap := h' }) z' fun h'' z'' sb => ?_⟩
    have hT2 : h''.get? s.heap.objs.size = some { cls := .type "tuple", data := .seq #[u, u2] } := (sb.2 _ (Nat.ne_of_gt hzl)).trans hT
    have new : ObjOk X.prog X.w (upd H s.heap.objs.size (.frz { cls := .type "tuple", data := .seq #[u, u2] } (.tup [x, y]))) h'' s.heap.objs.size (.frz { cls := .type "tuple", data := .seq #[u, u2] } (.tup [x, y])) :=
      ⟨hT2, by show 2 ≤ sizeLine; decide, [u, u2], .cons ru (.cons ru2 .nil), ⟨_, hT2, rfl, _, rfl⟩⟩
    have I1 : Inv X pins σ (upd H s.heap.objs.size (.frz { cls := .type "tuple", data := .seq #[u, u2] } (.tup [x, y]))) { s with heap := h'' } :=
      I.turnedNew (t' := s.toks) (ch := [z, TI, TO, i1, i2]) (fun c o hb q => (sb.2 c (fun q' => hb (by simp [q']))).trans (hk c o (fun q' => hb (by simp [q'])) (fun q' => hb (by simp [q'])) (fun q' => hb (by simp [q'])) (fun q' => hb (by simp [q'])) q)) hf (Nat.le_refl _) new
    refine ⟨.ref s.heap.objs.size, _, I1, rfl, ⟨_, x, y, _, rfl, I.hok.fresh (Nat.le_refl _), rfl, rfl, rfl, fun l hl => by rw [hl.inj I hqx]; exact hx, fun l hl => by rw [hl.inj I hqy]; exact hy⟩, ⟨z'', ?_, ⟨u, u2, ?_⟩, ?_, ?_⟩, fun c hcm => ?_⟩
    · exact (sb.2 _ D.TIz).trans (hk _ _ D.TIz D.TITO D.TIi1 D.TIi2 hTI)
    · exact (sb.2 _ D.TOz).trans TO'
    · exact h1'.it.keep fun o q => (sb.2 _ D.i1z).trans q
    · exact h2'.it.keep fun o q => (sb.2 _ D.i2z).trans q
    · have hlt : c < s.heap.objs.size := by
        rcases (show c = z ∨ c = TI ∨ c = TO ∨ c = i1 ∨ c = i2 by simpa using hcm) with q | q | q | q | q
        · rw [q]; exact hzl
        · rw [q]; exact Heap.lt_size hTI
        · rw [q]; exact Heap.lt_size hTO
        · rw [q]; exact Heap.lt_size e1
        · rw [q]; exact Heap.lt_size e2
      rw [upd_ne (Nat.ne_of_lt hlt)]
      exact (hf c hcm).1
  done := by
    intro X hP hw hK hc i pins s σ H E I hf st hg
    subst hP hw hK
    obtain ⟨hz, hTI, ⟨x0, y0, hTO⟩, h1, h2⟩ := st
    obtain ⟨xs, ys, hqx, hqy, hend⟩ := hg
    obtain ⟨its, rv, p⟩ := hqx.raw I
    obtain ⟨its2, rv2, p2⟩ := hqy.raw I
    have l1 := rv.length
    have l2 := rv2.length
    have he : its.toArray[i]? = none ∨ its2.toArray[i]? = none := by
      rcases hend with q | q
      · exact .inl (by simp; omega)
      · exact .inr (by simp; omega)
    exact pn_end (I.ok.hd hc) D hz hTI hTO (h1.and p) (h2.and p2) he fun h' hk => ⟨rfl, I.turnedL (t' := s.toks) (ch := [z, TI, TO, i1, i2]) (fun c o hb q => hk c o (fun q' => hb (by simp [q'])) (fun q' => hb (by simp [q'])) (fun q' => hb (by simp [q'])) (fun q' => hb (by simp [q'])) q) hf⟩
  self := by
    rintro A i s Q E ⟨hz, _⟩ h
    exact wpAny_pyIter_zip hz h
def iZipQ (K : PySem.W.Frag) (ta : TA) : TI := fun σ H R => ta σ H fun vs H1 => ∃ t1 t2 a b xs ys, vs = [.ref a, .ref b] ∧ SqB t1 K H1 a xs ∧ SqB t2 K H1 b ys ∧ R (ItzQ K t1 t2 a b) H1
theorem zip_five {X : Cx} {pins : List (Addr × Obj)} {σ : L2.St} {H : Hp} {s : Shared} (I : Inv X pins σ H s) : ∀ c, c ∈ [s.heap.objs.size + 4, s.heap.objs.size + 2, s.heap.objs.size + 3, s.heap.objs.size, s.heap.objs.size + 1] → FpOk X pins H c := fun c hc => by
  have hle : s.heap.objs.size ≤ c := by
    have : c = s.heap.objs.size + 4 ∨ c = s.heap.objs.size + 2 ∨ c = s.heap.objs.size + 3 ∨ c = s.heap.objs.size ∨ c = s.heap.objs.size + 1 := by simpa using hc
    rcases this with z | z | z | z | z
    · rw [z]; exact Nat.le_add_right _ _
    · rw [z]; exact Nat.le_add_right _ _
    · rw [z]; exact Nat.le_add_right _ _
    · rw [z]; exact Nat.le_refl _
    · rw [z]; exact Nat.le_add_right _ _
  exact I.fpOk hle (I.hok.fresh hle)
theorem pi_zipQ {X : Cx} {e e2 : Expr} {ta : TA} {p pos tpos : Pos} {elts : List Expr} {kk : Nat} (hg : Gl X "zip") (hm : X.mg "zip" = none) (ha : PA X [e, e2] ta)
    (hs : starEach [e, e2] X.env = (false, eval e X.env) :: starEach [e2] X.env := by rfl) (hpl : (backTo pos (starEach [e2] X.env)).any (·.1) = false := by rfl) : PI X (.Tuple elts kk tpos) (.Call (.Name "zip" p) [e, e2] [] pos) (iZipQ X.K ta) := by
  refine ⟨fun pins s σ H R I h => ?_⟩
  refine Call_ (ld_blt I hg hm PyProof.Rows.boot_zip (PyProof.Rows.callWith_type1 (thn (ha.run pos pins s σ H _ I h) fun us s1 q0 => ?_) hs hpl))
  obtain ⟨vs, H1, I1, r1, t1, t2, a, b, xs, ys, ex, hqx, hqy, q⟩ := q0
  subst ex
  cases r1 with
  | cons r rr =>
  cases rr with
  | cons r' rr =>
  cases rr; cases r; cases r'
  obtain ⟨its, rv, p1⟩ := hqx.raw I1
  obtain ⟨its2, rv2, p2⟩ := hqy.raw I1
  refine call_zipQ p1 p2 fun h' hz hTI hTO h1 h2 hk => wpAny_pyIter_zip hz ?_
  exact ⟨s1.heap.objs.size + 4, [s1.heap.objs.size + 4, s1.heap.objs.size + 2, s1.heap.objs.size + 3, s1.heap.objs.size, s1.heap.objs.size + 1], _, _, H1, rfl, I1.kept (t' := s1.toks) hk, turn_zipQ (PySem.W.ktu_apart s1.heap.objs.size a b p1.lt p2.lt), ⟨hz, hTI, ⟨_, _, hTO⟩, h1.it, h2.it⟩, zip_five I1, q⟩
theorem walk_zipQ {K : PySem.W.Frag} {t1 t2 : Bool} {a b : Addr} {xs ys : List V} (hl : xs.length = ys.length) : Walk (ItzQ K t1 t2 a b) xs.length (fun H => SqB t1 K H a xs ∧ SqB t2 K H b ys) (YPairN (fun i => xs[i]?) (fun i => ys[i]?)) := by
  refine ⟨fun i _ hi q => ⟨xs, ys, xs[i], ys[i]'(by omega), q.1, q.2, by simp [hi], by simp [← hl, hi]⟩, fun _ q => ⟨xs, ys, q.1, q.2, .inl (Nat.le_refl _)⟩, ?_⟩
  rintro i H v H' _ q ⟨T, x, y, o, h1, h2, h3, h5, h6, h4, h7⟩
  exact ⟨T, x, y, o, h1, h2, h3, h5, h6, h4 xs q.1, h7 ys q.2⟩
/-- pairs of two lists -/
def zipD (xs ys : List PyData) : List PyData := (xs.zip ys).map fun p => .tuple [p.1, p.2]
theorem RQ.sq {K : PySem.W.Frag} {ρ : Env'} {r : R} {xs : List PyData} {F : Hp} {Z : Addr → Prop} {B H : Hp} {σ : L2.St} {v : V} (h : RQ ρ r xs) (k : Ok K F Z B H σ ρ) (w : VR K B σ v r) : ∃ t p vs, v = .ref p ∧ SqB t K H p vs ∧ DpAll K B vs xs := by
  obtain ⟨p, vs, e, s, t⟩ := h.at k w
  rcases s with s | s
  · exact ⟨true, p, vs, e, s, t⟩
  · exact ⟨false, p, vs, e, s, t⟩
section
variable {X : Cx} {ρ ρ1 ρ2 : Env'} {a b : Expr} {p pos tpos : Pos} {elts : List Expr} {kk : Nat} {xs ys : List PyData}
/-- for x, y in zip(a, b): both data -/
theorem di_zip {qa qb : PyData} (ra : RQ ρ2 (.d qa) xs) (rb : RQ ρ2 (.d qb) ys) (hl : xs.length = ys.length) (hm : X.mg "zip" = none) (ha : DE X ρ a (.d qa) ρ1) (hb : DE X ρ1 b (.d qb) ρ2) (hg : Gl X "zip" := by rfl)
    (hs : starEach [a, b] X.env = (false, eval a X.env) :: starEach [b] X.env := by rfl) (hpl : (backTo pos (starEach [b] X.env)).any (·.1) = false := by rfl) (he : starEach [b] X.env = (false, eval b X.env) :: starEach [] X.env := by rfl) :
    DI X ρ (.Tuple elts kk tpos) (.Call (.Name "zip" p) [a, b] [] pos) (zipD xs ys) ρ2 := fun F Z B H σ Q k q =>
  ⟨_, pi_zipQ hg hm (pa_cons pe_s (pa_cons pe_s pa_nil he) hs) hs hpl, ha F Z B H σ _ k fun v1 B1 H1 k1 x1 w1 => hb F Z B1 H1 σ _ k1 fun v2 B2 H2 k2 x2 w2 => by
    -- what they read in B stays for good
    have fix : ∀ {v : V} {q : PyData} {zs : List PyData}, RQ ρ2 (.d q) zs → VR X.K B2 σ v (.d q) → ∃ t p vs, v = .ref p ∧ SqB t X.K B2 p vs ∧ DpAll X.K B2 vs zs := by
      intro v q zs r w
      cases r with
      | l r =>
        cases r with
        | d => cases w with | lst s t => exact ⟨true, _, _, rfl, s, t⟩
      | t => cases w with | tup s n t => exact ⟨false, _, _, rfl, s, t⟩
    obtain ⟨t1, p1, vs, rfl, s1, d1⟩ := fix ra (w1.mono x2)
    obtain ⟨t2, p2, us, rfl, s2, d2⟩ := fix rb w2
    have l1 := DpAll.length d1
    have l2 := DpAll.length d2
    have hl' : vs.length = us.length := by omega
    refine ⟨t1, t2, p1, p2, vs, us, rfl, s1.imp k2.exB, s2.imp k2.exB, q _ _ _ _ B2 H2 k2 (x1.trans x2) ?_ (walk_zipQ hl') (fun B3 H3 y1 y2 => ⟨s1.imp (y1.trans y2), s2.imp (y1.trans y2)⟩) ?_⟩
    · unfold zipD; rw [List.length_map, List.length_zip]; omega
    rintro F2 Z2 B3 H3 σ2 ρ3 i v H4 k3 y3 hi ⟨T, x, y, o, rfl, hT, rfl, od, oc, hx, hy⟩
    obtain ⟨c1, g1, h1⟩ := DpAll.get d1 hx
    obtain ⟨c2, g2, h2⟩ := DpAll.get d2 hy
    have n := k3.fresh hT
    refine ⟨_, .tuple [c1, c2], ?_, k3.new hT _, Sub.new _ n.2.1, .tup (.inl (.inr ⟨o, upd_same⟩)) ⟨o, _, upd_same, od, oc⟩ (dpAll_mono (Sub.new _ n.2.1) (.cons (dp_mono y3 h1) (.cons (dp_mono y3 h2) .nil)))⟩
    unfold zipD
    rw [List.getElem?_map, (List.getElem?_zip_eq_some (z := (c1, c2))).mpr ⟨g1, g2⟩]; rfl⟩
end
end G

set_option Elab.async false
set_option linter.all false
set_option maxRecDepth 100000
set_option maxHeartbeats 4000000
/- dict(zip(a, b)) -/
namespace G
open PySem L2 PySem.Spec PyProof.Rows
def tDZ (K : PySem.W.Frag) (ta : TA) : TE := fun σ H Q => ta σ H fun vs H1 => ∃ t1 t2 a b, ∃ (ks : List Key) (ys : List V), vs = [.ref a, .ref b] ∧ SqB t1 K H1 a (ks.map kV) ∧ SqB t2 K H1 b ys ∧ ks.length = ys.length ∧ ks.length ≤ sizeLine ∧ ∀ l, H1 l = none → Q (.ref l) (upd H1 l (.dK (mergeK [] (ks.zip ys))))
theorem keys_vals {P : Program} {w : World} : ∀ {ks : List Key} {ys : List V} {us vs : List Value}, Vals (ks.map kV) us → Vals ys vs → ks.length = ys.length → KV (ks.zip ys) (ks.zip vs) ∧ (ks.zip vs).length = us.length ∧ us.length = vs.length ∧ ∀ (i : Nat) (u v : Value), us[i]? = some u → vs[i]? = some v → ∃ k : Key, (ks.zip vs)[i]? = some (k, v) ∧ (mixKind P w).is k u = true
  | [], [], us, vs, a, b, _ => by
    cases a; cases b
    exact ⟨.nil, rfl, rfl, fun i u v h => by simp at h⟩
  | k :: ks, y :: ys, _, _, .cons r1 a, .cons r2 b, hl => by
    obtain ⟨q1, q2, q3, q4⟩ := keys_vals (P := P) (w := w) a b (Nat.succ.inj hl)
    refine ⟨.cons ⟨rfl, r2⟩ q1, by rw [List.zip_cons_cons, List.length_cons, List.length_cons, q2], by rw [List.length_cons, List.length_cons, q3], fun i u v h1 h2 => ?_⟩
    cases i with
    | zero =>
      obtain rfl := Option.some.inj h1
      obtain rfl := Option.some.inj h2
      exact ⟨k, rfl, kV_is r1⟩
    | succ i => exact q4 i u v (by simpa using h1) (by simpa using h2)
  | [], _ :: _, _, _, _, _, hl => nomatch hl
  | _ :: _, [], _, _, _, _, hl => nomatch hl
theorem pe_dictZ {X : Cx} {e e2 : Expr} {ta : TA} {p p2 pos pos2 : Pos} (hc : X.calm = true) (gd : Gl X "dict") (md : X.mg "dict" = none) (gz : Gl X "zip") (mz : X.mg "zip" = none) (ha : PA X [e, e2] ta)
    (hs : starEach [e, e2] X.env = (false, eval e X.env) :: starEach [e2] X.env := by rfl) (hpl : (backTo pos2 (starEach [e2] X.env)).any (·.1) = false := by rfl)
    (hs1 : starEach [.Call (.Name "zip" p2) [e, e2] [] pos2] X.env = (false, eval (.Call (.Name "zip" p2) [e, e2] [] pos2) X.env) :: starEach [] X.env := by rfl) (hp1 : (backTo pos (starEach [] X.env)).any (·.1) = false := by rfl) :
    PE X (.Call (.Name "dict" p) [.Call (.Name "zip" p2) [e, e2] [] pos2] [] pos) (tDZ X.K ta) := by
  refine ⟨fun pins s σ H Q I h => ?_⟩
  refine wpAny_Call_Name_kw (ld_blt I gd md PyProof.Rows.boot_dict (PyProof.Rows.callWith_type1 ?_ hs1 hp1))
  rw [hs1]
  show wpAny _ _ (spliced ((false, eval (.Call (.Name "zip" p2) [e, e2] [] pos2) X.env) :: backTo pos (starEach [] X.env))) _ _ s
  refine Calls.spliced_cons (wpAny_Call_Name_kw (ld_blt I gz mz PyProof.Rows.boot_zip (PyProof.Rows.callWith_type1 (thn (ha.run pos2 pins s σ H _ I h) fun us s1 q0 => ?_) hs hpl)))
  obtain ⟨vs, H1, I1, r1, t1, t2, a, b, ks, ys, ex, hqx, hqy, hl, hz, q⟩ := q0
  subst ex
  cases r1 with
  | cons r rr =>
  cases rr with
  | cons r' rr =>
  cases rr; cases r; cases r'
  obtain ⟨its, rv, p1⟩ := hqx.raw I1
  obtain ⟨its2, rv2, p2'⟩ := hqy.raw I1
  obtain ⟨kv, l1, l2, rel⟩ := keys_vals (P := X.prog) (w := X.w) rv rv2 hl
  have lk : its.length = ks.length := by rw [← rv.length, List.length_map]
  refine call_zipQ p1 p2' fun h' hz' hTI hTO h1 h2 hk => Calls.spliced_nil ?_
  have I2 : Inv X pins σ H1 { s1 with heap := h' } := I1.kept (t' := s1.toks) hk
  have D := PySem.W.ktu_apart s1.heap.objs.size a b p1.lt p2'.lt
  refine PySem.call_dict_pairs (knd := mixKind X.prog X.w) (kvs := ks.zip its2) (zip_arg t1 t2 _ _ _ _ _ a b D its.toArray its2.toArray (by rw [List.size_toArray, List.size_toArray, l2])) (I1.ok.hd hc) ⟨hz', hTI, ⟨_, _, hTO⟩, h1, h2⟩ ⟨by rw [List.size_toArray]; exact l1, fun i u v hr => rel i u v (by simpa using hr.1) (by simpa using hr.2)⟩ (by rw [List.size_toArray, lk]; exact hz) fun h2' tk hd' hkp => ?_
  have big : (h'.objs.size == sysModules) = false := beq_eq_false_iff_ne.mpr (Nat.ne_of_gt I2.big)
  have hlen : (mergeK [] (ks.zip ys)).length ≤ sizeLine := by
    refine Nat.le_trans (length_mergeK _ []) ?_
    rw [List.length_nil, Nat.zero_add, List.length_zip]
    omega
  have keep : ∀ c o, s1.heap.get? c = some o → h2'.get? c = some o := fun c o e => by
    have lt : c < s1.heap.objs.size := Heap.lt_size e
    have ne : c ∉ [s1.heap.objs.size + 4, s1.heap.objs.size + 3, s1.heap.objs.size, s1.heap.objs.size + 1] := fun m => by
      rcases (show c = s1.heap.objs.size + 4 ∨ c = s1.heap.objs.size + 3 ∨ c = s1.heap.objs.size ∨ c = s1.heap.objs.size + 1 by simpa using m) with z | z | z | z
      · exact absurd z (Nat.ne_of_lt (Nat.lt_of_lt_of_le lt (Nat.le_add_right _ _)))
      · exact absurd z (Nat.ne_of_lt (Nat.lt_of_lt_of_le lt (Nat.le_add_right _ _)))
      · exact absurd z (Nat.ne_of_lt lt)
      · exact absurd z (Nat.ne_of_lt (Nat.lt_of_lt_of_le lt (Nat.le_add_right _ _)))
    exact hkp c o ne (hk c o e)
  have big' : s1.heap.objs.size ≤ h'.objs.size := by
    have z := Heap.lt_size hz'
    exact Nat.le_of_lt (Nat.lt_of_le_of_lt (Nat.le_add_right _ 4) z)
  exact ⟨.ref h'.objs.size, upd H1 h'.objs.size (.dK (mergeK [] (ks.zip ys))), I1.laid (t' := tk) keep big' (show ObjOk X.prog X.w _ _ _ (.dK (mergeK [] (ks.zip ys))) from ⟨hlen, big, merged [] (ks.zip its2), KV.merge kv .nil, hd'⟩), rfl, q _ (I1.hok.fresh big')⟩
section
variable {X : Cx} {ρ ρ1 ρ2 : Env'} {a b : Expr} {p p2 pos pos2 : Pos} {ks : List Key} {ys : List PyData}
theorem kv_zip {K : PySem.W.Frag} {B : Hp} : ∀ {ks : List Key} {vs : List V} {ys : List PyData}, DpAll K B vs ys → KvAll K B (ks.zip vs) (ks.zip ys)
  | [], _, _, _ => .nil
  | k :: ks, _, _, .nil => .nil
  | k :: ks, _, _, .cons h t => .cons h (kv_zip t)
theorem keys_back {K : PySem.W.Frag} {B : Hp} : ∀ {ks : List Key} {vs : List V}, DpAll K B vs (ks.map keyD) → vs = ks.map kV
  | [], _, h => by cases h; rfl
  | k :: ks, _, .cons h t => by
    rw [dp_key h, keys_back t]; rfl
theorem df_dictZ {r1 r2 : R} (ra : RQ ρ2 r1 (ks.map keyD)) (rb : RQ ρ2 r2 ys) (hl : ks.length = ys.length) (hz : ks.length ≤ 100000) (hc : X.calm = true) (md : X.mg "dict" = none) (mz : X.mg "zip" = none) (ha : DE X ρ a r1 ρ1) (hb : DE X ρ1 b r2 ρ2) (gd : Gl X "dict" := by rfl) (gz : Gl X "zip" := by rfl)
    (hs : starEach [a, b] X.env = (false, eval a X.env) :: starEach [b] X.env := by rfl) (hpl : (backTo pos2 (starEach [b] X.env)).any (·.1) = false := by rfl) (he : starEach [b] X.env = (false, eval b X.env) :: starEach [] X.env := by rfl)
    (hs1 : starEach [.Call (.Name "zip" p2) [a, b] [] pos2] X.env = (false, eval (.Call (.Name "zip" p2) [a, b] [] pos2) X.env) :: starEach [] X.env := by rfl) (hp1 : (backTo pos (starEach [] X.env)).any (·.1) = false := by rfl) :
    DF X ρ (.Call (.Name "dict" p) [.Call (.Name "zip" p2) [a, b] [] pos2] [] pos) (.dk (putAllD [] (ks.zip ys))) ρ2 := fun F Z B H σ Q k q =>
  ⟨_, pe_dictZ hc gd md gz mz (pa_cons pe_s (pa_cons pe_s pa_nil he) hs) hs hpl hs1 hp1, ha F Z B H σ _ k fun v1 B1 H1 k1 x1 w1 => hb F Z B1 H1 σ _ k1 fun v2 B2 H2 k2 x2 w2 => by
    obtain ⟨t1, p1, vs, rfl, s1, d1⟩ := ra.sq k2 (w1.mono x2)
    obtain ⟨t2, p2, us, rfl, s2, d2⟩ := rb.sq k2 w2
    obtain rfl := keys_back d1
    have l2 := DpAll.length d2
    refine ⟨t1, t2, p1, p2, ks, us, rfl, s1, s2, by omega, Nat.le_trans hz (by decide), fun l hn => ?_⟩
    exact q l B2 _ (k2.loose hn _) (x1.trans x2) (k2.laid hn _) (.dk upd_same ((kv_zip d2).putAll .nil))⟩
end
end G

set_option Elab.async false
set_option linter.all false
set_option maxRecDepth 100000
set_option maxHeartbeats 4000000
/- dicts whose keys are tuples: read, their lengths, dict(zip(..)) -/
namespace G
open PySem L2 PySem.Spec PyProof.Rows
def lkN (s : List (NestedKey × PyData)) (k : NestedKey) : Option PyData := (s.find? fun p => decide (p.1 = k)).map (·.2)
theorem lkN_at {K : PySem.W.Frag} {B : Hp} {k : NestedKey} {d : PyData} : ∀ {xs : List (NestedKey × Addr × Value)} {s : List (NestedKey × PyData)}, NkAll K B xs s → lkN s k = some d → ∃ p v, atKey xs k = some p ∧ RelV v p.2 ∧ Dp K B v d
  | _, _, .nil, h => nomatch h
  | _, _, .cons (k := k0) (a := a) (u := u) (v := v) (d := d0) (r := r) h1 h2 h3 h4 t, h => by
    unfold lkN at h
    unfold atKey
    rw [List.find?_cons] at h ⊢
    by_cases e : k0 = k
    · have e1 : decide (k0 = k) = true := decide_eq_true e
      simp only [e1] at h ⊢
      have e2 : d0 = d := Option.some.inj h
      exact ⟨_, v, rfl, h3, e2 ▸ h4⟩
    · have e1 : decide (k0 = k) = false := decide_eq_false e
      simp only [e1] at h ⊢
      exact lkN_at t h
section
variable {X : Cx} {a b : Expr} {pos : Pos}
theorem pe_dnix {ta tb : TE} (hu : X.A.units + 100 < cLine) (ha : PE X a ta) (hb : PE X b tb) (hs : NoSl b) : PE X (.Subscript a b pos) (fun σ H Q => ta σ H fun o H1 => tb σ H1 fun iv H2 => ∃ d ka xs k p v, o = .ref d ∧ iv = .ref ka ∧ H2 d = some (dnHO X.w d xs) ∧ (∀ x ∈ xs, Dp X.K H2 (.ref x.2.1) x.1.data ∧ x.1.depth ≤ 8) ∧ (xs.map (·.1)).Nodup ∧ Dp X.K H2 (.ref ka) k.data ∧ k.depth ≤ 8 ∧ atKey xs k = some p ∧ RelV v p.2 ∧ Q v H2) := by
  refine ⟨fun pins s σ H Q I h => ?_⟩
  refine subD_of PySem.F.slot_dict_getitem.lookup hs (thn (ha.run pins s σ H _ I h) fun u s1 ⟨x, H1, I1, rx, q1⟩ => thn (hb.run pins s1 σ H1 _ I1 q1) fun iv s2 q2 => ?_)
  obtain ⟨y, H2, I2, ry, d, ka, xs, k, p, v, ex, ey, hd, hk, nd, kk, kd, hp, rv, q⟩ := q2
  subst ex ey
  obtain rfl : u = Value.ref d := rx
  obtain rfl : iv = Value.ref ka := ry
  have m := dn_of I2 hd hk nd
  exact ⟨m.typeIs, wpAny_getItem_heap (knd := nestedKind X.prog X.w) (by show X.A.units + 1 + 8 < cLine; omega) (key_is I2 kk kd) m hp ⟨v, H2, I2.tok _, rv, q⟩⟩
theorem call_lenN : CallR X (.builtin "len") (fun xs H Q => ∃ a ys, xs = [.ref a] ∧ H a = some (dnHO X.w a ys) ∧ (a == sysModules) = false ∧ (∀ x ∈ ys, Dp X.K H (.ref x.2.1) x.1.data ∧ x.1.depth ≤ 8) ∧ (ys.map (·.1)).Nodup ∧ ys.length ≤ 1000000 ∧ Q (.int ys.length) H) := by
  intro pins s σ H xs us Q I r ⟨a, ys, ex, hd, hs, hk, nd, hz, q⟩
  subst ex
  obtain ⟨u, eu, rx⟩ := vals1 r
  subst eu
  cases rx
  exact call_len_dictH (knd := nestedKind X.prog X.w) hs (dn_of I hd hk nd) (by omega) ⟨.int ys.length, H, I.tok _, ⟨_, rfl⟩, q⟩
end
section
variable {X : Cx} {ρ ρ1 ρ2 : Env'} {a b e : Expr} {pos p p2 pos2 : Pos} {s : List (NestedKey × PyData)} {k : NestedKey} {d : PyData} {i : Nat}
/-- d[k], d of our own, k a tuple -/
theorem de_dnix (hu : X.A.units + 100 < cLine) (hl : lkN s k = some d) (kt : ∃ ks, k = .tup ks) (kd : k.depth ≤ 8) (ho : DE X ρ a (.o i) ρ1) (he : DE X ρ1 b (.d k.data) ρ2) (hs : ρ2[i]? = some (.o (.dn X.w s)) := by rfl) (hnl : NoSl b := by intro _ _; rfl) : DE X ρ (.Subscript a b pos) (.d d) ρ2 := fun F Z B H σ Q kk q =>
  ⟨_, pe_dnix hu pe_s pe_s hnl, ho F Z B H σ _ kk fun v1 B1 H1 k1 x1 w1 => he F Z B1 H1 σ _ k1 fun v2 B2 H2 k2 x2 w2 => by
    obtain ⟨v', as, g1, g2, g3⟩ := k2.ob (gS_some hs)
    have w' : gV σ i = some v1 := w1
    rw [w'] at g1
    cases g1
    obtain ⟨ks, rfl⟩ := kt
    have dk : Dp X.K B2 v2 (.tuple (NestedKey.datas ks)) := w2
    have e3 : ∃ ka, v2 = .ref ka := by cases dk; exact ⟨_, rfl⟩
    obtain ⟨ka, rfl⟩ := e3
    cases g2 with
    | @dn _ aa xs _ d1 d2 d3 d4 d5 =>
    obtain ⟨pp, v, h1, h2, h3⟩ := lkN_at d5 hl
    exact ⟨aa, ka, xs, .tup ks, pp, v, rfl, rfl, d1, fun x hx => ⟨dp_mono k2.exB (nk_keys d5 x hx).1, (nk_keys d5 x hx).2⟩, d4, dp_mono k2.exB dk, kd, h1, h2, q v B2 H2 k2 (x1.trans x2) h3⟩⟩
/-- len(e), e a new dict -/
theorem de_lenDD (h : DD X ρ e s ρ1) (hm : X.mg "len" = none) (hg : Gl X "len" := by rfl) (he : starEach [e] X.env = (false, eval e X.env) :: starEach [] X.env := by rfl) (hpl : (backTo pos (starEach [] X.env)).any (·.1) = false := by rfl) :
    DE X ρ (.Call (.Name "len" p) [e] [] pos) (.d (.int s.length)) ρ1 := fun F Z B H σ Q k q =>
  ⟨_, pe_callB call_lenN hg hm PySem.boot_len (pa_cons pe_s pa_nil he) (by decide) (by decide) he hpl, h F Z B H σ _ k fun a B1 H1 k1 x1 n ob => by
    cases ob with
    | @dn _ _ xs _ d1 d2 d3 d4 d5 =>
    refine ⟨a, xs, rfl, d1, d2, fun x hx => ⟨dp_mono k1.exB (nk_keys d5 x hx).1, (nk_keys d5 x hx).2⟩, d4, d3, ?_⟩
    rw [d5.length]
    exact q _ B1 H1 k1 x1 (.int _)⟩
theorem de_lenDK {s : List (Key × PyData)} (h : DF X ρ e (.dk s) ρ1) (hm : X.mg "len" = none) (hg : Gl X "len" := by rfl) (he : starEach [e] X.env = (false, eval e X.env) :: starEach [] X.env := by rfl) (hpl : (backTo pos (starEach [] X.env)).any (·.1) = false := by rfl) :
    DE X ρ (.Call (.Name "len" p) [e] [] pos) (.d (.int s.length)) ρ1 := fun F Z B H σ Q k q =>
  ⟨_, pe_callB call_lenD hg hm PySem.boot_len (pa_cons pe_s pa_nil he) (by decide) (by decide) he hpl, h F Z B H σ _ k fun a B1 H1 k1 x1 n ob => by
    cases ob with
    | @dk _ r _ d1 t =>
    refine ⟨a, r, rfl, d1, ?_⟩
    rw [t.length]
    exact q _ B1 H1 k1 x1 (.int _)⟩
end
/-! ### dict(zip(a, b)), the keys tuples -/
theorem zipN_raw {K : PySem.W.Frag} {B : Hp} : ∀ {ks : List NestedKey} {ds : List PyData} {us vs : List V} {its its2 : List Value}, DpAll K B us (ks.map NestedKey.data) → DpAll K B vs ds → Vals us its → Vals vs its2 → ks.length = ds.length → (∀ k ∈ ks, k.depth ≤ 8 ∧ ∃ t, k = .tup t) →
    ∃ ys : List (NestedKey × Addr × Value), NkAll K B ys (ks.zip ds) ∧ ys.length = its.length ∧ its.length = its2.length ∧ ∀ (j : Nat) (u v : Value), its[j]? = some u → its2[j]? = some v → ∃ (k : NestedKey) (b : Addr), ys[j]? = some (k, b, v) ∧ u = .ref b
  | [], [], _, _, _, _, a, b, c, d, _, _ => by
    cases a; cases b; cases c; cases d
    exact ⟨[], .nil, rfl, rfl, fun j u v h => by simp at h⟩
  | k :: ks, d :: ds, _, _, _, _, @DpAll.cons _ _ v0 _ _ _ h1 a, .cons h2 b, .cons r1 c, .cons r2 e, hl, hk => by
    obtain ⟨ys, q1, q2, q3, q4⟩ := zipN_raw a b c e (Nat.succ.inj hl) fun k hk' => hk k (List.mem_cons_of_mem _ hk')
    obtain ⟨kd, t, rfl⟩ := hk k List.mem_cons_self
    have h1' : Dp K B v0 (.tuple (NestedKey.datas t)) := h1
    have e3 : ∃ ka, v0 = V.ref ka := by cases h1'; exact ⟨_, rfl⟩
    obtain ⟨ka, rfl⟩ := e3
    cases r1
    refine ⟨(.tup t, ka, _) :: ys, .cons h1 kd r2 h2 q1, by rw [List.length_cons, List.length_cons, q2], by rw [List.length_cons, List.length_cons, q3], fun j u v g1 g2 => ?_⟩
    cases j with
    | zero =>
      obtain rfl := Option.some.inj g1
      obtain rfl := Option.some.inj g2
      exact ⟨_, ka, rfl, rfl⟩
    | succ j => exact q4 j u v (by simpa using g1) (by simpa using g2)
  | [], _ :: _, _, _, _, _, _, _, _, _, hl, _ => nomatch hl
  | _ :: _, [], _, _, _, _, _, _, _, _, hl, _ => nomatch hl
def tDZN (K : PySem.W.Frag) (w : World) (ta : TA) : TE := fun σ H Q => ta σ H fun vs H1 => ∃ t1 t2 a b, ∃ (B : Hp) (us ws : List V) (ks : List NestedKey) (ds : List PyData), vs = [.ref a, .ref b] ∧ Sub B H1 ∧ SqB t1 K H1 a us ∧ SqB t2 K H1 b ws ∧ DpAll K B us (ks.map NestedKey.data) ∧ DpAll K B ws ds ∧ ks.length = ds.length ∧ (∀ k ∈ ks, k.depth ≤ 8 ∧ ∃ t, k = .tup t) ∧ ks.length ≤ 1000000 ∧
  ∀ (d : Addr) (ys : List (NestedKey × Addr × Value)), H1 d = none → (d == sysModules) = false → NkAll K B ys (ks.zip ds) → Q (.ref d) (upd H1 d (dnHO w d (storedAllH [] ys)))
theorem pe_dictZN {X : Cx} {e e2 : Expr} {ta : TA} {p p2 pos pos2 : Pos} (hc : X.calm = true) (hu : X.A.units + 100 < cLine) (gd : Gl X "dict") (md : X.mg "dict" = none) (gz : Gl X "zip") (mz : X.mg "zip" = none) (ha : PA X [e, e2] ta)
    (hs : starEach [e, e2] X.env = (false, eval e X.env) :: starEach [e2] X.env := by rfl) (hpl : (backTo pos2 (starEach [e2] X.env)).any (·.1) = false := by rfl)
    (hs1 : starEach [.Call (.Name "zip" p2) [e, e2] [] pos2] X.env = (false, eval (.Call (.Name "zip" p2) [e, e2] [] pos2) X.env) :: starEach [] X.env := by rfl) (hp1 : (backTo pos (starEach [] X.env)).any (·.1) = false := by rfl) :
    PE X (.Call (.Name "dict" p) [.Call (.Name "zip" p2) [e, e2] [] pos2] [] pos) (tDZN X.K X.w ta) := by
  refine ⟨fun pins s σ H Q I h => ?_⟩
  refine wpAny_Call_Name_kw (ld_blt I gd md PyProof.Rows.boot_dict (PyProof.Rows.callWith_type1 ?_ hs1 hp1))
  rw [hs1]
  show wpAny _ _ (spliced ((false, eval (.Call (.Name "zip" p2) [e, e2] [] pos2) X.env) :: backTo pos (starEach [] X.env))) _ _ s
  refine Calls.spliced_cons (wpAny_Call_Name_kw (ld_blt I gz mz PyProof.Rows.boot_zip (PyProof.Rows.callWith_type1 (thn (ha.run pos2 pins s σ H _ I h) fun us s1 q0 => ?_) hs hpl)))
  obtain ⟨vs, H1, I1, r1, t1, t2, a, b, B, us', ws, ks, ds, ex, xB, hqx, hqy, dk, dd, hl, hkk, hz, q⟩ := q0
  subst ex
  cases r1 with
  | cons r rr =>
  cases rr with
  | cons r' rr =>
  cases rr; cases r; cases r'
  obtain ⟨its, rv, p1⟩ := hqx.raw I1
  obtain ⟨its2, rv2, p2'⟩ := hqy.raw I1
  obtain ⟨ys, nk, l1, l2, rel⟩ := zipN_raw dk dd rv rv2 hl hkk
  have yl : ys.length = ks.length := by rw [nk.length, List.length_zip]; omega
  refine call_zipQ p1 p2' fun h' hz' hTI hTO h1 h2 hk => Calls.spliced_nil ?_
  have I2 : Inv X pins σ H1 { s1 with heap := h' } := I1.kept (t' := s1.toks) hk
  have D := PySem.W.ktu_apart s1.heap.objs.size a b p1.lt p2'.lt
  have big' : s1.heap.objs.size ≤ h'.objs.size := by
    have z := Heap.lt_size hz'
    exact Nat.le_of_lt (Nat.lt_of_le_of_lt (Nat.le_add_right _ 4) z)
  have out : ∀ {c : Addr}, c < s1.heap.objs.size → c ∉ [s1.heap.objs.size + 4, s1.heap.objs.size + 3, s1.heap.objs.size, s1.heap.objs.size + 1] := fun {c} lt m => by
    rcases (show c = s1.heap.objs.size + 4 ∨ c = s1.heap.objs.size + 3 ∨ c = s1.heap.objs.size ∨ c = s1.heap.objs.size + 1 by simpa using m) with z | z | z | z
    · exact absurd z (Nat.ne_of_lt (Nat.lt_of_lt_of_le lt (Nat.le_add_right _ _)))
    · exact absurd z (Nat.ne_of_lt (Nat.lt_of_lt_of_le lt (Nat.le_add_right _ _)))
    · exact absurd z (Nat.ne_of_lt lt)
    · exact absurd z (Nat.ne_of_lt (Nat.lt_of_lt_of_le lt (Nat.le_add_right _ _)))
  refine PySem.call_dict_pairsH (knd := nestedKind X.prog X.w) (ps := ys) (zip_arg t1 t2 _ _ _ _ _ a b D its.toArray its2.toArray (by rw [List.size_toArray, List.size_toArray, l2])) (I1.ok.hd hc) (by show X.A.units + 1 + 1 + 8 < cLine; omega) ⟨hz', hTI, ⟨_, _, hTO⟩, h1, h2⟩ ⟨by rw [List.size_toArray]; exact l1, fun j key v hr => ?_⟩ (fun g hg x hx => ?_) (by rw [List.size_toArray, ← l1, yl, sizeLine_eq]; omega) fun h2' tk hd' hkp => ?_
  · obtain ⟨k, bb, g1, g2⟩ := rel j key v (by simpa using hr.1) (by simpa using hr.2)
    exact ⟨k, bb, g1, g2⟩
  · have z := nk_keys nk x hx
    have z2 := key_is I1 (dp_mono xB z.1) z.2
    exact ⟨NestedIs.at (fun c o vs n e _ => hg c o (Nat.ne_of_lt (Nat.lt_of_lt_of_le (Heap.lt_size e) big')) (out (Heap.lt_size e)) (hk c o e)) _ _ z2.1, z2.2⟩
  · have big : (h'.objs.size == sysModules) = false := beq_eq_false_iff_ne.mpr (Nat.ne_of_gt I2.big)
    exact ⟨.ref h'.objs.size, _, I1.laid (a := h'.objs.size) (o := dnHO X.w h'.objs.size (storedAllH [] ys)) (t' := tk) (fun c o e => hkp c o (out (Heap.lt_size e)) (hk c o e)) big' (dn_ok (P := X.prog) hd'), rfl, q _ ys (I1.hok.fresh big') big nk⟩
section
variable {X : Cx} {ρ ρ1 ρ2 : Env'} {a b : Expr} {p p2 pos pos2 : Pos} {ks : List NestedKey} {ds : List PyData}
theorem dd_dictZ {qa qb : PyData} (ra : RQ ρ2 (.d qa) (ks.map NestedKey.data)) (rb : RQ ρ2 (.d qb) ds) (hl : ks.length = ds.length) (hk : ∀ k ∈ ks, k.depth ≤ 8 ∧ ∃ t, k = .tup t) (hz : ks.length ≤ 1000000) (hc : X.calm = true) (hu : X.A.units + 100 < cLine) (md : X.mg "dict" = none) (mz : X.mg "zip" = none) (ha : DE X ρ a (.d qa) ρ1) (hb : DE X ρ1 b (.d qb) ρ2) (gd : Gl X "dict" := by rfl) (gz : Gl X "zip" := by rfl)
    (hs : starEach [a, b] X.env = (false, eval a X.env) :: starEach [b] X.env := by rfl) (hpl : (backTo pos2 (starEach [b] X.env)).any (·.1) = false := by rfl) (he : starEach [b] X.env = (false, eval b X.env) :: starEach [] X.env := by rfl)
    (hs1 : starEach [.Call (.Name "zip" p2) [a, b] [] pos2] X.env = (false, eval (.Call (.Name "zip" p2) [a, b] [] pos2) X.env) :: starEach [] X.env := by rfl) (hp1 : (backTo pos (starEach [] X.env)).any (·.1) = false := by rfl) :
    DD X ρ (.Call (.Name "dict" p) [.Call (.Name "zip" p2) [a, b] [] pos2] [] pos) (putAllN [] (ks.zip ds)) ρ2 := fun F Z B H σ Q k q =>
  ⟨_, pe_dictZN hc hu gd md gz mz (pa_cons pe_s (pa_cons pe_s pa_nil he) hs) hs hpl hs1 hp1, ha F Z B H σ _ k fun v1 B1 H1 k1 x1 w1 => hb F Z B1 H1 σ _ k1 fun v2 B2 H2 k2 x2 w2 => by
    obtain ⟨t1, p1, us, rfl, s1, d1⟩ := ra.sq k2 (VR.mono x2 w1)
    obtain ⟨t2, p2, vs, rfl, s2, d2⟩ := rb.sq k2 w2
    refine ⟨t1, t2, p1, p2, B2, us, vs, ks, ds, rfl, k2.exB, s1, s2, d1, d2, hl, hk, hz, fun l ys hn hsy nk => ?_⟩
    obtain ⟨g1, g2, g3⟩ := nk_putAll nk .nil (by simp)
    have zl : ys.length ≤ 1000000 := by rw [nk.length, List.length_zip]; omega
    exact q l B2 _ (k2.loose hn _) (x1.trans x2) (k2.laid hn _) (.dn upd_same hsy (by have := g3; simp only [List.length_nil] at this; omega) g2 g1)⟩
end
end G

set_option Elab.async false
set_option linter.all false
set_option maxRecDepth 100000
set_option maxHeartbeats 4000000
/- tuples among the keys of a dict of our own; some more comparisons -/
namespace G
open PySem L2 PySem.Spec PyProof.Rows
def rInN (X : Cx) (g : Bool → Bool) : R2 := fun x y H Q => ∃ ka d xs k, x = .ref ka ∧ y = .ref d ∧ H d = some (dnHO X.w d xs) ∧ (d == sysModules) = false ∧ (∀ x ∈ xs, Dp X.K H (.ref x.2.1) x.1.data ∧ x.1.depth ≤ 8) ∧ (xs.map (·.1)).Nodup ∧ Dp X.K H (.ref ka) k.data ∧ k.depth ≤ 8 ∧ Q (.bl (g (atKey xs k).isSome)) H
theorem op_inN {X : Cx} (hu : X.A.units + 100 < cLine) : OpR X (compareOp .In) (rInN X id) := by
  intro pins s σ H x y v u Q I rx ry h
  obtain ⟨ka, d, xs, k, rfl, rfl, hd, hs, hk, nd, kk, kd, q⟩ := h
  obtain rfl : v = Value.ref ka := rx
  obtain rfl : u = Value.ref d := ry
  exact wpAny_in_heap (knd := nestedKind X.prog X.w) (by show X.A.units + 1 + 8 < cLine; omega) (key_is I kk kd) hs (dn_of I hd hk nd) ⟨.bl _, H, I.tok _, rfl, q⟩
theorem op_notInN {X : Cx} (hu : X.A.units + 100 < cLine) : OpR X (compareOp .NotIn) (rInN X not) := by
  intro pins s σ H x y v u Q I rx ry h
  obtain ⟨ka, d, xs, k, rfl, rfl, hd, hs, hk, nd, kk, kd, q⟩ := h
  obtain rfl : v = Value.ref ka := rx
  obtain rfl : u = Value.ref d := ry
  exact wpAny_notIn_heap (knd := nestedKind X.prog X.w) (by show X.A.units + 1 + 8 < cLine; omega) (key_is I kk kd) hs (dn_of I hd hk nd) ⟨.bl _, H, I.tok _, rfl, q⟩
theorem atKey_in {K : PySem.W.Frag} {B : Hp} {k : NestedKey} {xs : List (NestedKey × Addr × Value)} {s : List (NestedKey × PyData)} (t : NkAll K B xs s) : (atKey xs k).isSome = decide (k ∈ s.map (·.1)) := by
  rw [Bool.eq_iff_iff, atKey_iff, nk_fst t, decide_eq_true_iff]
section
variable {X : Cx} {ρ ρ1 ρ2 : Env'} {a b : Expr} {pos : Pos} {s : List (NestedKey × PyData)} {k : NestedKey} {i : Nat} {d : PyData} {ds : List PyData}
theorem od_inN {g : Bool → Bool} (kt : ∃ ks, k = .tup ks) (kd : k.depth ≤ 8) (hs : ρ[i]? = some (.o (.dn X.w s))) : OpD X.K (rInN X g) ρ (.d k.data) (.o i) (.d (.bool (g (decide (k ∈ s.map (·.1)))))) := fun F Z B H σ Q v1 v2 kk w1 w2 q => by
  obtain ⟨v', as, g1, g2, g3⟩ := kk.ob (gS_some hs)
  have w' : gV σ i = some v2 := w2
  rw [w'] at g1
  cases g1
  obtain ⟨ks, rfl⟩ := kt
  have dk : Dp X.K B v1 (.tuple (NestedKey.datas ks)) := w1
  have e3 : ∃ ka, v1 = .ref ka := by cases dk; exact ⟨_, rfl⟩
  obtain ⟨ka, rfl⟩ := e3
  cases g2 with
  | @dn _ aa xs _ d1 d2 d3 d4 d5 =>
  refine ⟨ka, aa, xs, .tup ks, rfl, rfl, d1, d2, fun x hx => ⟨dp_mono kk.exB (nk_keys d5 x hx).1, (nk_keys d5 x hx).2⟩, d4, dp_mono kk.exB dk, kd, ?_⟩
  rw [atKey_in d5]
  exact q _ B H kk (Sub.refl B) (.bl _)
theorem dt_inN (hu : X.A.units + 100 < cLine) (kt : ∃ ks, k = .tup ks) (kd : k.depth ≤ 8) (ha : DE X ρ a (.d k.data) ρ1) (hb : DE X ρ1 b (.o i) ρ2) (hs : ρ2[i]? = some (.o (.dn X.w s)) := by rfl) (hm : behindInMarks .In b = false := by rfl) : DT X ρ (.Compare a [.In] [b] pos) (decide (k ∈ s.map (·.1))) ρ2 := dt_cmp (op_inN hu) (od_inN kt kd hs) hm ha hb
theorem de_inN (hu : X.A.units + 100 < cLine) (kt : ∃ ks, k = .tup ks) (kd : k.depth ≤ 8) (ha : DE X ρ a (.d k.data) ρ1) (hb : DE X ρ1 b (.o i) ρ2) (hs : ρ2[i]? = some (.o (.dn X.w s)) := by rfl) (hm : behindInMarks .In b = false := by rfl) : DE X ρ (.Compare a [.In] [b] pos) (.d (.bool (decide (k ∈ s.map (·.1))))) ρ2 := de_cmp (op_inN hu) (od_inN kt kd hs) hm ha hb
theorem dt_notInN (hu : X.A.units + 100 < cLine) (kt : ∃ ks, k = .tup ks) (kd : k.depth ≤ 8) (ha : DE X ρ a (.d k.data) ρ1) (hb : DE X ρ1 b (.o i) ρ2) (hs : ρ2[i]? = some (.o (.dn X.w s)) := by rfl) (hm : behindInMarks .NotIn b = false := by rfl) : DT X ρ (.Compare a [.NotIn] [b] pos) (!decide (k ∈ s.map (·.1))) ρ2 := dt_cmp (op_notInN hu) (od_inN kt kd hs) hm ha hb
theorem de_inL (hu : X.A.units + 65 < cLine) (hx : SeqAt.shaped d = true) (hy : SeqAt.shaped (.list ds) = true) (ha : DE X ρ a (.d d) ρ1) (hb : DE X ρ1 b (.d (.list ds)) ρ2) (hm : behindInMarks .In b = false := by rfl) : DE X ρ (.Compare a [.In] [b] pos) (.d (.bool (ds.any fun z => PyData.eqv z d))) ρ2 := de_cmp (op_inD hu) (od_inL hx hy) hm ha hb
theorem de_neDk {x y : PyData} (hu : X.A.units + 64 < cLine) (hx : SeqAt.shaped x = true) (hy : SeqAt.shaped y = true) (ha : DE X ρ a (.d x) ρ1) (hb : DE X ρ1 b (.d y) ρ2) : DE X ρ (.Compare a [.NotEq] [b] pos) (.d (.bool (!PyData.eqv x y))) ρ2 := de_cmp (op_neD hu) (od_neD hx hy) (nomark b) ha hb
theorem de_gtI {i j : Int} (ha : DE X ρ a (.d (.int i)) ρ1) (hb : DE X ρ1 b (.d (.int j)) ρ2) : DE X ρ (.Compare a [.Gt] [b] pos) (.d (.bool (decide (j < i)))) ρ2 := de_cmp op_gt (od_I0 fun _ _ => .bl _) (nomark b) ha hb
end
end G

set_option Elab.async false
set_option linter.all false
set_option maxRecDepth 100000
set_option maxHeartbeats 4000000
/- x, y = [..], [..], names that are cells -/
namespace G
open PySem L2 PySem.Spec PyProof.Rows
section
variable {X : Cx} {ρ ρ' ρ1 ρ2 ρ3 : Env'} {a b c : Expr} {pos : Pos} {xs ys : List PyData}
theorem ds_asgLL {i j : Nat} {x y : Str} {s1 s2 : Sl} {px py pt pt2 : Pos} {kt k2} (hc : X.calm = true) (hN : X.N.Nodup) (h1 : DL X ρ a xs ρ1) (h2 : DL X ρ1 b ys ρ2) (hij : i ≠ j)
    (hr1 : ρ2[i]? = some s1 := by rfl) (hr2 : ρ2[j]? = some s2 := by rfl) (hi : X.N[i]? = some x := by rfl) (hj : X.N[j]? = some y := by rfl)
    (lx : Loc X.env.scope x := by first | exact Or.inl rfl | exact Or.inr rfl) (ly : Loc X.env.scope y := by first | exact Or.inl rfl | exact Or.inr rfl)
    (fx : X.fn x = true ∨ X.env.scope.names.lookup x = some .local := by first | exact .inl rfl | exact .inr rfl) (fy : X.fn y = true ∨ X.env.scope.names.lookup y = some .local := by first | exact .inl rfl | exact .inr rfl)
    (hs : swapsWithSole [.Tuple [.Name x px, .Name y py] kt pt] (.Tuple [a, b] k2 pt2) pos.line X.env = pure false := by rfl) (hw : swappedStores [.Tuple [.Name x px, .Name y py] kt pt] (.Tuple [a, b] k2 pt2) X.env = pure none := by rfl)
    (hs1 : starEach [a, b] X.env = (false, eval a X.env) :: starEach [b] X.env := by rfl) (hs2 : starEach [b] X.env = (false, eval b X.env) :: starEach [] X.env := by rfl) :
    DS X ρ (.Assign [.Tuple [.Name x px, .Name y py] kt pt] (.Tuple [a, b] k2 pt2) pos) (.nx ((ρ2.set i (.o (.lst xs))).set j (.o (.lst ys)))) := fun F Z B H σ D k q =>
  ⟨_, ps_asg (pe_tup (pa_cons pe_s (pa_cons pe_s pa_nil hs2) hs1)) (pg_tup (n := 2) hc (pgs_cons (pg_name hN hi lx fx) (pgs_cons (pg_name hN hj ly fy) pgs_nil))) hs hw,
    h1 F Z B H σ _ k fun p1 us1 B1 H1 k1 x1 n1 hp1 w1 => by
    refine h2 _ _ B1 H1 σ _ (k1.lock n1 hp1) fun p2 us B2 H2 k2' x2 n2 hp2 t2 => ?_
    obtain ⟨k5, n5, h5⟩ := k2'.unlock n1.f n1.z
    obtain ⟨n6, ne⟩ := n2.less
    refine ⟨by show 2 ≤ sizeLine; decide, fun t ht => ?_⟩
    have k7 := k5.loose ht (.tup [.ref p1, .ref p2])
    have keep : ∀ b, b ≠ t → upd H2 t (.tup [.ref p1, .ref p2]) b = H2 b := fun b hb => upd_ne hb
    have t1 : p1 ≠ t := fun e => by rw [← e, h5] at ht; cases ht
    have t2' : p2 ≠ t := fun e => by rw [← e, hp2] at ht; cases ht
    have n7 : New X.K F Z B2 (upd H2 t (.tup [.ref p1, .ref p2])) σ ρ2 p1 := n5.other (B' := B2) k5 (fun b hb ⟨o, ho⟩ => keep b fun e => by rw [e, ht] at ho; cases ho) ⟨_, h5⟩
    have n8 : New X.K F Z B2 (upd H2 t (.tup [.ref p1, .ref p2])) σ ρ2 p2 := n6.other (B' := B2) k5 (fun b hb ⟨o, ho⟩ => keep b fun e => by rw [e, ht] at ho; cases ho) ⟨_, hp2⟩
    have o7 : ObAt X.K B2 (upd H2 t (.tup [.ref p1, .ref p2])) (.ref p1) [p1] (.lst xs) := .lst ((keep p1 t1).trans h5) (dpAll_mono x2 w1)
    have o8 : ObAt X.K B2 (upd H2 t (.tup [.ref p1, .ref p2])) (.ref p2) [p2] (.lst ys) := .lst ((keep p2 t2').trans hp2) t2
    refine ⟨t, [.ref p1, .ref p2], rfl, SqT.of upd_same, rfl, _, _, rfl, _, _, rfl, rfl, ?_⟩
    have i1 : i < ρ2.length := (List.getElem?_eq_some_iff.mp hr1).1
    have j1 : j < ρ2.length := (List.getElem?_eq_some_iff.mp hr2).1
    have k8 := k7.take n7 i1 o7
    have n9 := n8.setO (i := i) (v := .ref p1) k7.len o7 (by simpa using ne)
    exact q B2 _ _ (k8.take n9 (by rw [List.length_set]; exact j1) o8) (x1.trans x2)⟩
end
end G

set_option Elab.async false
set_option linter.all false
set_option maxRecDepth 100000
set_option maxHeartbeats 4000000
/- targets over lists; x, y = d, [..] over cells -/
namespace G
open PySem L2 PySem.Spec PyProof.Rows
section
variable {X : Cx} {ρ ρ' ρ1 ρ2 ρ3 : Env'} {a b c : Expr} {es : List Expr} {pos : Pos} {xs ys : List PyData} {d1 : PyData}
/-- x, y = d, [..] (names that are cells) -/
theorem ds_asg2 {i j : Nat} {x y : Str} {s1 : Sl} {px py pt pt2 : Pos} {kt k2} (hc : X.calm = true) (hN : X.N.Nodup) (h1 : DE X ρ a (.d d1) ρ1) (h2 : DL X ρ1 b ys ρ2) (hij : i ≠ j)
    (hr2 : ρ2[j]? = some s1 := by rfl) (hi : X.N[i]? = some x := by rfl) (hj : X.N[j]? = some y := by rfl)
    (lx : Loc X.env.scope x := by first | exact Or.inl rfl | exact Or.inr rfl) (ly : Loc X.env.scope y := by first | exact Or.inl rfl | exact Or.inr rfl)
    (fx : X.fn x = true ∨ X.env.scope.names.lookup x = some .local := by first | exact .inl rfl | exact .inr rfl) (fy : X.fn y = true ∨ X.env.scope.names.lookup y = some .local := by first | exact .inl rfl | exact .inr rfl)
    (hs : swapsWithSole [.Tuple [.Name x px, .Name y py] kt pt] (.Tuple [a, b] k2 pt2) pos.line X.env = pure false := by rfl) (hw : swappedStores [.Tuple [.Name x px, .Name y py] kt pt] (.Tuple [a, b] k2 pt2) X.env = pure none := by rfl)
    (hs1 : starEach [a, b] X.env = (false, eval a X.env) :: starEach [b] X.env := by rfl) (hs2 : starEach [b] X.env = (false, eval b X.env) :: starEach [] X.env := by rfl) :
    DS X ρ (.Assign [.Tuple [.Name x px, .Name y py] kt pt] (.Tuple [a, b] k2 pt2) pos) (.nx ((ρ2.set j (.o (.lst ys))).set i (.d d1))) := fun F Z B H σ D k q =>
  ⟨_, ps_asg (pe_tup (pa_cons pe_s (pa_cons pe_s pa_nil hs2) hs1)) (pg_tup (n := 2) hc (pgs_cons (pg_name hN hi lx fx) (pgs_cons (pg_name hN hj ly fy) pgs_nil))) hs hw,
    h1 F Z B H σ _ k fun v1 B1 H1 k1 x1 w1 => by
    refine h2 F Z B1 H1 σ _ k1 fun p2 us B2 H2 k2 x2 n2 hp2 t2 => ?_
    refine ⟨by show 2 ≤ sizeLine; decide, fun t ht => ?_⟩
    have k7 := k2.loose ht (.tup [v1, .ref p2])
    have keep : ∀ b, b ≠ t → upd H2 t (.tup [v1, .ref p2]) b = H2 b := fun b hb => upd_ne hb
    have t2' : p2 ≠ t := fun e => by rw [← e, hp2] at ht; cases ht
    have n8 : New X.K F Z B2 (upd H2 t (.tup [v1, .ref p2])) σ ρ2 p2 := n2.other (B' := B2) k2 (fun b hb ⟨o, ho⟩ => keep b fun e => by rw [e, ht] at ho; cases ho) ⟨_, hp2⟩
    have o8 : ObAt X.K B2 (upd H2 t (.tup [v1, .ref p2])) (.ref p2) [p2] (.lst ys) := .lst ((keep p2 t2').trans hp2) t2
    refine ⟨t, [v1, .ref p2], rfl, SqT.of upd_same, rfl, _, _, rfl, _, _, rfl, rfl, ?_⟩
    have j1 : j < ρ2.length := (List.getElem?_eq_some_iff.mp hr2).1
    have k9 := (k7.take n8 j1 o8).setD (i := i) (dp_mono x2 (show Dp X.K B1 v1 d1 from w1))
    rw [← List.set_comm _ _ hij] at k9
    exact q B2 _ _ k9 (x1.trans x2)⟩
theorem dg_lst {n : Nat} {kk : Nat} {js : List Nat} (hc : X.calm = true) (h : DGs X ρ es xs js ρ1) (hl : xs.length = n) (hn : (assignEach es X.env).length = n := by rfl) (hst : (assignEach es X.env).findIdx? (·.1) = none := by rfl) :
    DG X ρ (.Tuple es kk pos) (.list xs) js ρ1 := fun F Z B H σ v Q k w q => by
  obtain ⟨p, vs, e, s, t⟩ := (RL.d (ρ := ρ) (xs := xs)).at k (show VR X.K B σ v (.d (.list xs)) from w)
  exact ⟨_, pg_lst hc pgs_s hn hst, p, vs, e, s, by rw [DpAll.length t]; exact hl, h F Z B H σ vs Q k t q⟩
end
end G

set_option Elab.async false
set_option linter.all false
set_option maxRecDepth 100000
set_option maxHeartbeats 4000000
/- {key: .. for .. in .. if ..} -/
namespace G
open PySem L2 PySem.Spec PyProof.Rows
theorem putAllD_len6 : ∀ (l s : List (Key × PyData)), (putAllD s l).length ≤ s.length + l.length
  | [], s => Nat.le_refl _
  | p :: l, s => by
    have h1 := putAllD_len6 l (putD s p.1 p.2)
    have h2 := putD_len (kvs := s) (k := p.1) (d := p.2)
    show (putAllD (putD s p.1 p.2) l).length ≤ _
    simp only [List.length_cons]
    omega
theorem putAllD_snoc6 (l s : List (Key × PyData)) (p : Key × PyData) : putAllD s (l ++ [p]) = putD (putAllD s l) p.1 p.2 := by
  unfold putAllD
  rw [List.foldl_append]; rfl
section
variable {X : Cx} {ρ ρ' ρ1 ρ2 ρ3 : Env'} {a b c e kx vx tg iter : Expr} {es : List Expr} {p pos : Pos} {xs ys zs : List PyData}
theorem dcK_go {α : Type} {scope : Scope} {ifs : List Expr} (l : List α) (G' : α → PyData) (kf : α → Key) (vf : α → PyData) (f : α → Bool) (own : List (Str × Nat)) (hc : X.calm = true) (hN : X.N.Nodup) (ok : BlkOk X.N X.env.scope scope own) (hi : DI X ρ tg iter (l.map G') ρ1) (hv : ∀ j ∈ own.map (·.2), gS ρ1 j = .un)
    (turn : ∀ x ∈ l, ∃ ρt js ρa ρk ρe, (Blk X scope fun Y => DG Y ρ1 tg (G' x) js ρt) ∧ (Blk X scope fun Y => DTs Y ρt ifs (f x) ρa) ∧ (f x = true → Blk X scope fun Y => DE Y ρa kx (.d (keyD (kf x))) ρk) ∧ (f x = true → Blk X scope fun Y => DE Y ρk vx (.d (vf x)) ρe) ∧ (∀ j ∈ js, j ∈ own.map (·.2)) ∧ Wk ρa ρ1 ∧ Wk ρe ρ1) (hz : l.length < 1000000) {F : Hp} {Z : Addr → Prop} {B H : Hp} {σ : L2.St} {Q : VK} (k : Ok X.K F Z B H σ ρ) (q : ∀ p B' H', Ok X.K F Z B' H' σ ρ1 → Sub B B' → New X.K F Z B' H' σ ρ1 p → ObAt X.K B' H' (.ref p) [p] (.dk (putAllD [] ((l.filter f).map fun x => (kf x, vf x)))) → Q (.ref p) H') :
    tDc (sI X tg iter) (bG X scope tg) (bT X scope ifs) (bE X scope kx) (bE X scope vx) (own.map (·.2)) σ H Q := by
    refine hi F Z B H σ _ k fun J n Gd Y B1 H1 k1 x1 hn W hG hY D hD => ?_
    rw [List.length_map] at hn
    subst hn
    generalize hvs : own.map (·.2) = vs at hv turn ⊢
    have wu := wipeE_wk hv
    have kw := (k1.wipe vs).weak wu
    obtain ⟨frD, _, frZ⟩ := k1.fresh hD
    refine ⟨fun i m H' => m = l.length - i ∧ i ≤ l.length ∧ ∃ B', Ok X.K F Z B' H' (wipe σ vs) ρ1 ∧ Sub B1 B' ∧ New X.K F Z B' H' (wipe σ vs) ρ1 D ∧ ObAt X.K B' H' (.ref D) [D] (.dk (putAllD [] (((l.take i).filter f).map fun x => (kf x, vf x)))), ⟨l.length, by simp, Nat.zero_le _, B1, kw.loose hD _, Sub.refl B1, kw.laid hD _, .dk upd_same .nil⟩, ?_⟩
    rintro i m H' ⟨rfl, hle, B', k', y, nw, ob⟩
    by_cases hlt : i < l.length
    · refine .inr ⟨W.goes i H' hlt (hG B' H' y k'.exB), fun H' => ∃ B', Ok X.K F Z B' H' (wipe σ vs) ρ1 ∧ Sub B1 B' ∧ New X.K F Z B' H' (wipe σ vs) ρ1 D ∧ ObAt X.K B' H' (.ref D) [D] (.dk (putAllD [] (((l.take (i + 1)).filter f).map fun x => (kf x, vf x)))), fun H' h => ⟨l.length - (i + 1), by omega, rfl, hlt, h⟩, ?_⟩
      intro v H2 hv'
      have hv' := W.yields i H' v H2 hlt (hG B' H' y k'.exB) hv'
      cases ob with
      | @dk _ r _ d1 d5 =>
      obtain ⟨B2, x, hx, k2, y2, w⟩ := hY _ _ B' H' (wipe σ vs) ρ1 i v H2 (k'.lock nw d1) y hlt hv'
      have hli : l[i]? = some l[i] := List.getElem?_eq_getElem hlt
      rw [List.getElem?_map, hli] at hx
      cases hx
      obtain ⟨ρt, js, ρa, ρk, ρe, t2, tt, t3, t4, t1, t6, t5⟩ := turn l[i] (List.getElem_mem hlt)
      intro s0 H0 C0 cl0 fp0
      refine t2 s0 H0 C0 cl0 fp0 _ _ B2 H2 (wipe σ vs) v _ k2 w fun B3 H3 σ3 k3 y3 wp => ?_
      have e3 : wipe σ3 vs = wipe σ vs := wipe_wipe (wp vs t1)
      refine ⟨by rw [e3], ?_⟩
      intro s9 H9' C9 cl9 fp9
      refine tt s9 H9' C9 cl9 fp9 _ _ B3 H3 σ3 _ k3 fun B4 H4 k4 y4 => ?_
      cases hb : f l[i] with
      | false =>
        rw [if_neg (by decide)]
        have k5' := ((k4.weak t6).wipe vs).weak wu
        rw [e3] at k5'
        obtain ⟨k6, n6, h6⟩ := k5'.unlock frD frZ
        have yy : Sub B' B4 := (y2.trans y3).trans y4
        refine ⟨B4, k6, y.trans yy, n6, ?_⟩
        rw [List.take_add_one, hli, List.filter_append, List.map_append, Option.toList_some, List.filter_cons_of_neg (by rw [hb]; decide), List.filter_nil, List.map_nil, List.append_nil]
        exact .dk h6 (d5.mono yy)
      | true =>
        rw [if_pos rfl]
        intro s1 H1' C1 cl1 fp1
        refine t3 hb s1 H1' C1 cl1 fp1 _ _ B4 H4 σ3 _ k4 fun vk B5 H5 k5 y5 wk => ?_
        intro s2 H2' C2 cl2 fp2
        refine t4 hb s2 H2' C2 cl2 fp2 _ _ B5 H5 σ3 _ k5 fun vz B6 H6 k7 y6 wz => ?_
        have k5' := ((k7.weak t5).wipe vs).weak wu
        rw [e3] at k5'
        obtain ⟨k6, n6, h6⟩ := k5'.unlock frD frZ
        have yy : Sub B' B6 := (((y2.trans y3).trans y4).trans y5).trans y6
        obtain rfl := dp_key (show Dp X.K B5 vk (keyD (kf l[i])) from wk)
        have d5' := d5.mono yy
        refine ⟨r, kf l[i], rfl, h6, ?_, ?_⟩
        · rw [d5.length]
          have h1 := putAllD_len6 (((l.take i).filter f).map fun x => (kf x, vf x)) []
          have h2 := List.length_filter_le f (l.take i)
          rw [List.length_map] at h1
          rw [List.length_take] at h2
          simp only [List.length_nil] at h1
          have z : (1000000 : Nat) ≤ sizeLine := by decide
          omega
        · refine ⟨B6, k6.poke n6, y.trans yy, n6.poke k6, ?_⟩
          rw [List.take_add_one, hli, List.filter_append, List.map_append, Option.toList_some, List.filter_cons_of_pos hb, List.filter_nil, List.map_cons, List.map_nil]
          show ObAt X.K B6 _ _ _ (.dk (putAllD [] (_ ++ [(kf l[i], vf l[i])])))
          rw [putAllD_snoc6]
          exact .dk upd_same (d5'.put wz)
    · have e : i = l.length := by omega
      subst e
      have dn0 := ob
      cases ob with
      | @dk _ r _ d1 d5 =>
      obtain ⟨k6, n6, h6⟩ := (Ok.merge k1 (k'.lock nw d1) y (mrg_un rfl hv)).unlock frD frZ
      rw [List.take_length] at dn0
      exact .inl ⟨W.stops H' (hG B' H' y k'.exB), q D B' H' k6 (x1.trans y) n6 dn0⟩
theorem df_dcK {α : Type} {scope : Scope} {ifs : List Expr} (l : List α) (G' : α → PyData) (kf : α → Key) (vf : α → PyData) (f : α → Bool) (own : List (Str × Nat)) (hc : X.calm = true) (hN : X.N.Nodup) (ok : BlkOk X.N X.env.scope scope own) (hi : DI X ρ tg iter (l.map G') ρ1) (hv : ∀ j ∈ own.map (·.2), gS ρ1 j = .un)
    (turn : ∀ x ∈ l, ∃ ρt js ρa ρk ρe, (Blk X scope fun Y => DG Y ρ1 tg (G' x) js ρt) ∧ (Blk X scope fun Y => DTs Y ρt ifs (f x) ρa) ∧ (f x = true → Blk X scope fun Y => DE Y ρa kx (.d (keyD (kf x))) ρk) ∧ (f x = true → Blk X scope fun Y => DE Y ρk vx (.d (vf x)) ρe) ∧ (∀ j ∈ js, j ∈ own.map (·.2)) ∧ Wk ρa ρ1 ∧ Wk ρe ρ1) (hz : l.length < 1000000)
    (hs : ∀ x, foldedSetIterable iter X.env x = pure x := by intro _; rfl) : DF X ρ (.DictComp kx vx [⟨tg, iter, ifs, 0⟩] scope pos) (.dk (putAllD [] ((l.filter f).map fun x => (kf x, vf x)))) ρ1 := fun F Z B H σ Q k q =>
  ⟨_, pe_dc (g := bG X scope tg) (tt := bT X scope ifs) (tk := bE X scope kx) (tv := bE X scope vx) hc hN pi_s ok pg_b pts_b pe_b pe_b hs, dcK_go l G' kf vf f own hc hN ok hi hv turn hz k q⟩
end
end G

set_option Elab.async false
set_option linter.all false
set_option maxRecDepth 100000
set_option maxHeartbeats 4000000
/- distances, by going on from all that were reached last -/
namespace G
open PySem L2 PySem.Spec PyProof.Rows
abbrev Bf := List (Int × Int) × List Int
def stepY (W : Wb) (s x : Int) (st : Bf) (y : Int) : Bf := if !(lkI st.1 y).isSome && decide (0 < sortB W x y) then (st.1 ++ [(y, s)], st.2 ++ [y]) else st
def stepX (W : Wb) (s : Int) (st : Bf) (x : Int) : Bf := (names W.n).foldl (stepY W s x) st
def round (W : Wb) (s : Int) (found : List (Int × Int)) (row : List Int) : Bf := row.foldl (stepX W s) (found, [])
def bfs (W : Wb) (name : Int) : Nat → Bf
  | 0 => ([(name, 0)], [name])
  | k + 1 => round W (k + 1 : Nat) (bfs W name k).1 (bfs W name k).2
/-- the reached ones are names, once each; the last ones are among them -/
structure BInv (W : Wb) (st : Bf) : Prop where
  nd : (st.1.map (·.1)).Nodup
  nm : ∀ p ∈ st.1, p.1 ∈ names W.n
  rw : ∀ x ∈ st.2, x ∈ names W.n
  fl : st.2.length ≤ st.1.length
theorem lkI_none {l : List (Int × Int)} {y : Int} : lkI l y = none ↔ y ∉ l.map (·.1) := by
  unfold lkI
  rw [Option.map_eq_none_iff, List.find?_eq_none]
  constructor
  · intro h m
    obtain ⟨p, hp, e⟩ := List.mem_map.mp m
    exact h p hp (by simp [e])
  · intro h p hp e
    exact h (List.mem_map.mpr ⟨p, hp, by simpa using e⟩)
theorem stepY_inv {W : Wb} {s x y : Int} {st : Bf} (h : BInv W st) (hy : y ∈ names W.n) : BInv W (stepY W s x st y) := by
  unfold stepY
  split
  · rename_i c
    have hn : lkI st.1 y = none := by
      have : (lkI st.1 y).isSome = false := by
        cases q : (lkI st.1 y).isSome with
        | false => rfl
        | true => rw [q] at c; simp at c
      simpa using this
    have hn' := lkI_none.mp hn
    refine ⟨?_, fun p hp => ?_, fun z hz => ?_, ?_⟩
    · show ((st.1 ++ [(y, s)]).map (·.1)).Nodup
      rw [List.map_append, List.nodup_append]
      refine ⟨h.nd, by simp, fun a ha b hb e => ?_⟩
      have : b = y := by simpa using hb
      exact hn' (by rw [← this, ← e]; exact ha)
    · rcases List.mem_append.mp hp with q | q
      · exact h.nm p q
      · rw [List.mem_singleton.mp q]; exact hy
    · rcases List.mem_append.mp hz with q | q
      · exact h.rw z q
      · rw [List.mem_singleton.mp q]; exact hy
    · show (st.2 ++ [y]).length ≤ (st.1 ++ [(y, s)]).length
      rw [List.length_append, List.length_append]
      have := h.fl
      simp; omega
  · exact h
theorem foldY_inv {W : Wb} {s x : Int} : ∀ {l : List Int} {st : Bf}, BInv W st → (∀ y ∈ l, y ∈ names W.n) → BInv W (l.foldl (stepY W s x) st)
  | [], _, h, _ => h
  | y :: l, st, h, hl => by
    rw [List.foldl_cons]
    exact foldY_inv (stepY_inv h (hl y List.mem_cons_self)) fun z hz => hl z (List.mem_cons_of_mem _ hz)
theorem foldX_inv {W : Wb} {s : Int} : ∀ {l : List Int} {st : Bf}, BInv W st → BInv W (l.foldl (stepX W s) st)
  | [], _, h => h
  | x :: l, st, h => by
    rw [List.foldl_cons]
    exact foldX_inv (foldY_inv h fun _ hy => hy)
theorem nodup_len : ∀ {l m : List Int}, l.Nodup → (∀ x ∈ l, x ∈ m) → l.length ≤ m.length
  | [], _, _, _ => Nat.zero_le _
  | x :: l, m, nd, h => by
    rw [List.nodup_cons] at nd
    have hx := h x List.mem_cons_self
    have q := nodup_len (l := l) (m := m.erase x) nd.2 fun y hy => (List.mem_erase_of_ne (fun e : y = x => nd.1 (by rw [← e]; exact hy))).mpr (h y (List.mem_cons_of_mem _ hy))
    rw [List.length_erase_of_mem hx] at q
    have : 0 < m.length := List.length_pos_iff.mpr fun e => by rw [e] at hx; cases hx
    rw [List.length_cons]
    omega
theorem BInv.len {W : Wb} {st : Bf} (h : BInv W st) : st.1.length ≤ W.n := by
  have q := nodup_len (l := st.1.map (·.1)) (m := names W.n) h.nd fun x hx => by
    obtain ⟨p, hp, rfl⟩ := List.mem_map.mp hx
    exact h.nm p hp
  rw [List.length_map, names_len] at q
  exact q
theorem BInv.late {W : Wb} {st : Bf} (h : BInv W st) : BInv W (st.1, []) := ⟨h.nd, h.nm, fun x hx => (nomatch hx), Nat.zero_le _⟩
theorem bfs_inv {W : Wb} {name : Int} (h : name ∈ names W.n) : ∀ k, BInv W (bfs W name k)
  | 0 => ⟨by simp [bfs], fun p hp => by rw [List.mem_singleton.mp hp]; exact h, fun x hx => by rw [List.mem_singleton.mp hx]; exact h, by simp [bfs]⟩
  | k + 1 => foldX_inv (bfs_inv h k).late
/-- each turn finds as many as it leaves in the row -/
theorem stepY_grow {W : Wb} {s x y : Int} {st : Bf} {m : Nat} (h : st.1.length = m + st.2.length) : (stepY W s x st y).1.length = m + (stepY W s x st y).2.length := by
  unfold stepY
  split
  · show (st.1 ++ [(y, s)]).length = m + (st.2 ++ [y]).length
    rw [List.length_append, List.length_append, h]
    simp; omega
  · exact h
theorem foldY_grow {W : Wb} {s x : Int} {m : Nat} : ∀ {l : List Int} {st : Bf}, st.1.length = m + st.2.length → (l.foldl (stepY W s x) st).1.length = m + (l.foldl (stepY W s x) st).2.length
  | [], _, h => h
  | y :: l, st, h => by rw [List.foldl_cons]; exact foldY_grow (stepY_grow h)
theorem foldX_grow {W : Wb} {s : Int} {m : Nat} : ∀ {l : List Int} {st : Bf}, st.1.length = m + st.2.length → (l.foldl (stepX W s) st).1.length = m + (l.foldl (stepX W s) st).2.length
  | [], _, h => h
  | x :: l, st, h => by rw [List.foldl_cons]; exact foldX_grow (foldY_grow h)
theorem bfs_grow {W : Wb} {name : Int} (k : Nat) : (bfs W name (k + 1)).1.length = (bfs W name k).1.length + (bfs W name (k + 1)).2.length := foldX_grow (by simp)
theorem bfs_ends {W : Wb} {name : Int} (h : name ∈ names W.n) : ∃ k, k ≤ W.n + 1 ∧ (bfs W name k).2 = [] ∧ ∀ j, j < k → (bfs W name j).2 ≠ [] := by
  have ex : ∃ k, k ≤ W.n + 1 ∧ (bfs W name k).2 = [] := by
    refine Classical.byContradiction fun no => ?_
    have all : ∀ k, k ≤ W.n + 1 → (bfs W name k).2 ≠ [] := fun k hk e => no ⟨k, hk, e⟩
    have grow : ∀ k, k ≤ W.n + 1 → k + 1 ≤ (bfs W name k).1.length := by
      intro k
      induction k with
      | zero => intro _; exact Nat.le_refl _
      | succ k ih =>
        intro hk
        rw [bfs_grow]
        have := ih (by omega)
        have := List.length_pos_iff.mpr (all (k + 1) hk)
        omega
    have q := grow (W.n + 1) (Nat.le_refl _)
    have := (bfs_inv h (W.n + 1)).len
    omega
  obtain ⟨k0, hk0, e0⟩ := ex
  clear hk0
  have : ∀ m, ∀ k, k ≤ m → (bfs W name k).2 = [] → ∃ k, (bfs W name k).2 = [] ∧ ∀ j, j < k → (bfs W name j).2 ≠ [] := by
    intro m
    induction m with
    | zero => intro k hk e; exact ⟨k, e, fun j hj => by omega⟩
    | succ m ih =>
      intro k hk e
      by_cases c : ∃ j, j < k ∧ (bfs W name j).2 = []
      · obtain ⟨j, hj, ej⟩ := c
        exact ih j (by omega) ej
      · exact ⟨k, e, fun j hj ej => c ⟨j, hj, ej⟩⟩
  obtain ⟨k, hk, hmin⟩ := this k0 k0 (Nat.le_refl _) e0
  refine ⟨k, ?_, hk, hmin⟩
  have grow : ∀ j, j < k → j + 1 ≤ (bfs W name j).1.length := by
    intro j
    induction j with
    | zero => intro _; exact Nat.le_refl _
    | succ j ih =>
      intro hj
      rw [bfs_grow]
      have := ih (by omega)
      have := List.length_pos_iff.mpr (hmin (j + 1) hj)
      omega
  rcases Nat.eq_zero_or_pos k with z | z
  · omega
  · have q := grow (k - 1) (by omega)
    have := (bfs_inv h (k - 1)).len
    omega

/-! ### the walk -/
noncomputable def ends (W : Wb) (name : Int) : Nat := by
  classical exact if h : name ∈ names W.n then Classical.choose (bfs_ends h) else 0
theorem ends_at {W : Wb} {name : Int} (h : name ∈ names W.n) : ends W name ≤ W.n + 1 ∧ (bfs W name (ends W name)).2 = [] ∧ ∀ j, j < ends W name → (bfs W name j).2 ≠ [] := by
  unfold ends
  rw [dif_pos h]
  exact Classical.choose_spec (bfs_ends h)
/-- how far a name is -/
noncomputable def distO (W : Wb) (name x : Int) : Option Int := lkI (bfs W name (ends W name)).1 x
noncomputable def rowD (W : Wb) (name : Int) : PyData := .tuple ((names W.n).map fun x => optD (distO W name x))
theorem ints_sh (l : List Int) : SeqAt.shaped (.list (l.map PyData.int)) = true := by
  have a : PyData.canLayAll0 (l.map PyData.int) = true := by
    induction l with
    | nil => simp [PyData.canLayAll0]
    | cons x xs ih =>
      rw [List.map_cons]
      simp only [PyData.canLayAll0, PyData.canLay0, ih]
      rfl
  have b : PyData.depthAll (l.map PyData.int) = 0 := by
    clear a
    induction l with
    | nil => simp [PyData.depthAll]
    | cons x xs ih =>
      rw [List.map_cons]
      simp only [PyData.depthAll, PyData.depth, ih]
      rfl
  show (PyData.canLay0 (.list (l.map PyData.int)) && decide ((PyData.list (l.map PyData.int)).depth ≤ 64)) = true
  simp only [PyData.canLay0, a, PyData.depth, b]
  rfl
theorem ne_nil_eqv (l : List Int) : PyData.eqv (.list (l.map PyData.int)) (.list []) = decide (l = []) := by
  cases l with
  | nil => simp [PyData.eqv, PyData.eqvAll]
  | cons x l => simp [PyData.eqv, PyData.eqvAll]
end G

set_option Elab.async false
set_option linter.all false
set_option maxRecDepth 100000
set_option maxHeartbeats 4000000
/- far looks are alike in form -/
namespace G
open PySem L2 PySem.Spec PyProof.Rows
/-! ### all looks -/
theorem alike_nums : ∀ (l m : List Int), PySem.W.alikeAll (NestedKey.datas (l.map .num)) (NestedKey.datas (m.map .num)) = true
  | [], _ => by simp [NestedKey.datas, PySem.W.alikeAll]
  | _ :: _, [] => by simp [NestedKey.datas, PySem.W.alikeAll]
  | a :: l, b :: m => by
    simp only [List.map_cons, NestedKey.datas, PySem.W.alikeAll, alike_nums l m, NestedKey.data, PySem.W.alike, Bool.and_self]
theorem alike_nearK (W V : Wb) (x y : Int) : PySem.W.alike (nearK W x).data (nearK V y).data = true := by
  unfold nearK
  simp only [NestedKey.data, PySem.W.alike]
  refine alikeAll_of fun a ha b hb => ?_
  obtain ⟨p, _, rfl⟩ := List.mem_map.mp (mem_onceK.mp ha)
  obtain ⟨q, _, rfl⟩ := List.mem_map.mp (mem_onceK.mp hb)
  simp [pK, NestedKey.data, NestedKey.datas, PySem.W.alike, PySem.W.alikeAll]
theorem alike_look (W V : Wb) (x y c d : Int) (l m : List Int) : PySem.W.alike (NestedKey.tup [.num c, nearK W x, numsK l]).data (NestedKey.tup [.num d, nearK V y, numsK m]).data = true := by
  have e : PySem.W.alike (numsK l).data (numsK m).data = true := by
    unfold numsK
    simp only [NestedKey.data, PySem.W.alike]
    exact alike_nums l m
  rw [NestedKey.data, NestedKey.data]
  simp only [NestedKey.datas, PySem.W.alike, PySem.W.alikeAll, alike_nearK, e, NestedKey.data, Bool.and_self]
theorem nearK_depth (W : Wb) (x : Int) : (nearK W x).depth ≤ 2 := by
  unfold nearK
  rw [NestedKey.depth]
  have : NestedKey.depthAll (onceK ((nearS W x).map pK)) ≤ 1 := depthAll_le fun k hk => by
    obtain ⟨p, _, rfl⟩ := List.mem_map.mp (mem_onceK.mp hk)
    exact pK_depth p
  omega
theorem numsK_depth (l : List Int) : (numsK l).depth ≤ 1 := by
  unfold numsK
  rw [NestedKey.depth]
  have : NestedKey.depthAll (l.map .num) ≤ 0 := depthAll_le fun k hk => by
    obtain ⟨c, _, rfl⟩ := List.mem_map.mp hk
    simp [NestedKey.depth]
  omega
theorem look_depth (W : Wb) (x c : Int) (l : List Int) : (NestedKey.tup [.num c, nearK W x, numsK l]).depth ≤ 3 := by
  have h1 := nearK_depth W x
  have h2 := numsK_depth l
  simp only [NestedKey.depth, NestedKey.depthAll]
  omega
theorem kin_looks {W : Wb} {f : Int → List Int} (l : List Int) : Kin (l.map fun x => .tup [.num (colAt W x), nearK W x, numsK (f x)]) := by
  refine ⟨fun k hk => ?_, fun k hk => ?_, fun a ha b hb => ?_⟩
  · obtain ⟨x, _, rfl⟩ := List.mem_map.mp hk
    exact ⟨_, _, rfl⟩
  · obtain ⟨x, _, rfl⟩ := List.mem_map.mp hk
    exact Nat.le_trans (look_depth W x _ _) (by omega)
  · obtain ⟨x, _, rfl⟩ := List.mem_map.mp ha
    obtain ⟨y, _, rfl⟩ := List.mem_map.mp hb
    exact alike_look W W x y _ _ _ _
end G

set_option Elab.async false
set_option linter.all false
set_option maxRecDepth 100000
set_option maxHeartbeats 4000000
/- near looks as mathematics -/
namespace G
open PySem L2 PySem.Spec PyProof.Rows
theorem optD_shaped (o : Option Int) : SeqAt.shaped (optD o) = true := by
  cases o <;> simp [optD, SeqAt.shaped, PyData.canLay0, PyData.depth]
theorem int23_shaped : SeqAt.shaped (.tuple [.int 2, .int 3]) = true := by decide
def in23 (o : Option Int) : Bool := [PyData.int 2, .int 3].any fun z => PyData.eqv z (optD o)
theorem in23_eq (o : Option Int) : in23 o = (decide (o = some 2) || decide (o = some 3)) := by
  cases o with
  | none => simp [in23, optD, PyData.eqv]
  | some i =>
    simp only [in23, optD, PyData.eqv, List.any_cons, List.any_nil, Bool.or_false, Option.some.injEq]
    congr 1
    · by_cases h : i = 2
      · subst h; simp
      · simp [h, Ne.symm h]
    · by_cases h : i = 3
      · subst h; simp
      · simp [h, Ne.symm h]
noncomputable def someS (W : Wb) (x : Int) : List Int := (names W.n).filter fun y => in23 (distO W x y)
noncomputable def nlK (W : Wb) (x : Int) : NestedKey := .tup [.num (colAt W x), nearK W x, numsK (onceI ((someS W x).map (colAt W)))]
theorem at_row {W : Wb} {x0 x : Int} (hx : x ∈ names W.n) : atI ((names W.n).map fun x => optD (distO W x0 x)) x = some (optD (distO W x0 x)) := by
  obtain ⟨h1, h2⟩ := mem_names.mp hx
  have hi : x.toNat < W.n := by omega
  unfold atI
  have e : ixN ((names W.n).map fun x => optD (distO W x0 x)).length x = some x.toNat := by
    unfold ixN
    rw [List.length_map, names_len]
    simp [h1]
    omega
  rw [e]
  show ((names W.n).map fun x => optD (distO W x0 x))[x.toNat]? = _
  unfold names
  rw [List.getElem?_map, List.getElem?_map, List.getElem?_range hi]
  show some (optD (distO W x0 ((x.toNat : Nat) : Int))) = _
  rw [show ((x.toNat : Nat) : Int) = x by omega]
end G

set_option Elab.async false
set_option linter.all false
set_option maxRecDepth 100000
set_option maxHeartbeats 4000000
/- the law's own distances, walked -/
namespace G
open PySem L2 PySem.Spec PyProof.Rows
/-- a row: to each name how far, or nothing yet -/
def rowOf (n : Nat) (g : Int → Option Int) : PyData := .list ((names n).map fun x => optD (g x))
def g0 (name : Int) : Int → Option Int := fun x => if x = name then some 0 else none
def nearL (W : Wb) (g : Int → Option Int) (x : Int) : List Int := (names W.n).filter fun y => (g y).isNone && decide (0 < sortB W x y)
def gX (W : Wb) (s : Int) (g : Int → Option Int) (x : Int) : Int → Option Int := if g x = some s then fun y => if y ∈ nearL W g x then some (s + 1) else g y else g
def gSt (W : Wb) (g : Int → Option Int) (s : Int) : Int → Option Int := (names W.n).foldl (gX W s) g
def gEnd (W : Wb) (name : Int) : Int → Option Int := (names W.n).foldl (gSt W) (g0 name)
theorem at_rowOf {n : Nat} {g : Int → Option Int} {x : Int} (hx : x ∈ names n) : atI ((names n).map fun x => optD (g x)) x = some (optD (g x)) := by
  obtain ⟨h1, h2⟩ := mem_names.mp hx
  have hi : x.toNat < n := by omega
  unfold atI
  have e : ixN ((names n).map fun x => optD (g x)).length x = some x.toNat := by
    unfold ixN
    rw [List.length_map, names_len]
    simp [h1]
    omega
  rw [e]
  show ((names n).map fun x => optD (g x))[x.toNat]? = _
  unfold names
  rw [List.getElem?_map, List.getElem?_map, List.getElem?_range hi]
  show some (optD (g ((x.toNat : Nat) : Int))) = _
  rw [show ((x.toNat : Nat) : Int) = x by omega]
theorem optD_eqv (o : Option Int) (s : Int) : PyData.eqv (optD o) (.int s) = decide (o = some s) := by
  cases o with
  | none => simp [optD, PyData.eqv]
  | some v =>
    show (v == s) = decide (some v = some s)
    by_cases h : v = s
    · subst h; simp
    · simp [h]
theorem optD_non (o : Option Int) : isNon (optD o) = o.isNone := by cases o <;> rfl
theorem any_ints (l : List Int) (y : Int) : ((l.map PyData.int).any fun z => PyData.eqv z (.int y)) = decide (y ∈ l) := by
  rw [List.any_map]
  induction l with
  | nil => rfl
  | cons a l ih =>
    rw [List.any_cons, ih]
    show (a == y || decide (y ∈ l)) = _
    by_cases h : a = y
    · subst h; simp
    · have : (a == y) = false := by simpa using h
      rw [this, Bool.false_or]
      by_cases m : y ∈ l
      · rw [decide_eq_true m, decide_eq_true (List.mem_cons_of_mem _ m)]
      · rw [decide_eq_false m, decide_eq_false fun z => (List.mem_cons.mp z).elim (fun e => h e.symm) m]
end G

set_option Elab.async false
set_option linter.all false
set_option maxRecDepth 100000
set_option maxHeartbeats 4000000
/- t * 1 -/
namespace G
open PySem L2 PySem.Spec PyProof.Rows
theorem tuple_mul1 (l : Addr) (items : Array Value) (n : Nat) (dd : Option Addr) (sl : Array (Option Value)) (u : Tok) :
    Meets (Builtin.«tuple.__mul__» ⟨[.ref l, .int 1 u], []⟩) (fun _ R s => s.heap.get? l = some { cls := .type "tuple", dict := dd, data := .seq items n, slots := sl } ∧ R (.ok (.ret (Value.ref l))) s) :=
  .of_wp fun prog w A R s h => by
    obtain ⟨hp, g, d, tk, os⟩ := s
    obtain ⟨hl, h⟩ := h
    have f1 := AutoSeq1.idx_int
    have c1 : (items.isEmpty || (1 : Int) == 1) = true := by simp
    wp_walk using wpAny_loadPart' hl
    repeat (first
      | (refine wpAny_ite_false (decide_eq_false (by decide)) ?_; wp_walk using wpAny_loadPart' hl)
      | (refine wpAny_ite_true (decide_eq_true c1) ?_; wp_walk using wpAny_loadPart' hl)
      | (refine wpAny_ite_true (decide_eq_true rfl) ?_; wp_walk using wpAny_loadPart' hl))
    exact ⟨_, rfl, h⟩
def rRep1 (K : PySem.W.Frag) : R2 := fun x y H Q => ∃ l xs, x = .ref l ∧ y = .int 1 ∧ SqT K H l xs ∧ Q (.ref l) H
theorem op_rep1 {X : Cx} : OpR X (binaryOp .Mult) (rRep1 X.K) := by
  rintro pins s σ H x y v u Q I rx ry ⟨l, xs, rfl, rfl, hT, q⟩
  cases rx
  obtain ⟨t, rfl⟩ := ry
  obtain ⟨its, r, ⟨⟨cls, dd, data, sl⟩, ho, hc, n, hd⟩, hs⟩ := I.tuple hT
  simp only at hc hd
  subst hc hd
  exact wpAny_binaryOp_repeat_ref (T := "tuple") (U := "int") (by decide) ⟨_, ho, rfl⟩ (fun s' => typeIs_int s' 1 t) noFill_tuple_mul PySem.F.fills_int_mul PySem.F.slot_int_rmul repeat_tuple PySem.F.slot_int_index.lookup
    (call_meets PySem.F.slot_int_rmul (typeIs_int s 1 t) PySem.F.entry_int_rmul (PySem.F.args_int_rmul_2 _ _) (int_rmul_tuple 1 t l its.toArray n dd sl) ⟨ho, rfl, ⟨_, ho, rfl⟩,
      call_meets PySem.F.slot_tuple_mul ⟨_, ho, rfl⟩ PySem.F.entry_tuple_mul (PySem.F.args_tuple_mul_2 _ _) (tuple_mul1 l its.toArray n dd sl t) ⟨ho, ⟨.ref l, H, I, rfl, q⟩⟩⟩)
section
variable {X : Cx} {ρ ρ1 ρ2 : Env'} {a b : Expr} {pos : Pos} {xs : List PyData}
/-- (..) * k, k at least 1 -/
theorem de_repA {k : Int} (h0 : 1 ≤ k) (h1 : k ≤ 1000) (hne : xs ≠ []) (hz : xs.length ≤ 1000) (ha : DE X ρ a (.d (.tuple xs)) ρ1) (hb : DE X ρ1 b (.d (.int k)) ρ2) : DE X ρ (.BinOp a .Mult b pos) (.d (.tuple (List.replicate k.toNat xs).flatten)) ρ2 := by
  by_cases e : k = 1
  · subst e
    rw [show (List.replicate (1 : Int).toNat xs).flatten = xs by show (List.replicate 1 xs).flatten = xs; simp]
    exact fun F Z B H σ Q kk q => ⟨_, pe_op op_rep1 pe_s pe_s, DE.two ha hb kk fun v1 v2 B2 H2 k2 x w1 w2 => by
      obtain ⟨p, vs, e, s, sB, t⟩ := tup_at k2 w1
      have dz : Dp X.K B2 v2 (.int 1) := w2
      cases dz
      exact ⟨p, vs, e, rfl, s, q _ B2 H2 k2 x (e ▸ w1)⟩⟩
  · exact de_repT (by omega) h1 hne hz ha hb
end
end G

set_option Elab.async false
set_option linter.all false
set_option maxRecDepth 100000
set_option maxHeartbeats 4000000
/- webs of ties, Paley webs, walked -/
namespace G
open PySem L2 PySem.Spec PyProof.Rows
def psWT (ds : List PyData) (d : PyData) : Prop := ∃ (n : Nat) (l : List (Int × Int)), 1 ≤ n ∧ n ≤ 100 ∧ l.length ≤ 1000 ∧ ds = [.int n, .list (pD l)] ∧ d = wbD (tiW n l)
def psPW (ds : List PyData) (d : PyData) : Prop := ∃ q : Nat, 1 ≤ q ∧ q ≤ 29 ∧ ds = [.int q] ∧ d = wbD (palW q)
theorem eqv_pD (l : List (Int × Int)) : pD l = l.map prD := by unfold pD; rw [List.map_map]; rfl
theorem ints_shT (l : List Int) : SeqAt.shaped (.list (l.map PyData.int)) = true := by
  refine (sx_list (n := 0) fun x hx => ?_).sh
  obtain ⟨i, _, rfl⟩ := List.mem_map.mp hx
  exact sx_int
theorem zeros_eq (n : Nat) : (List.replicate n [PyData.int 0]).flatten = (List.replicate n (0 : Int)).map .int := by
  induction n with
  | zero => rfl
  | succ n ih => rw [List.replicate_succ, List.flatten_cons, ih, List.replicate_succ]; rfl
theorem lkD_keys (l : List Int) (f : Int → Int) (v : PyData) (x : Int) : (lkD (putAllD [] (l.map fun z => ((Sum.inl (f z) : Key), v))) (.inl x)).isSome = decide (x ∈ l.map f) := by
  have main : ∀ (l : List Int) (s : List (Key × PyData)), (lkD (putAllD s (l.map fun z => ((Sum.inl (f z) : Key), v))) (.inl x)).isSome = ((lkD s (.inl x)).isSome || decide (x ∈ l.map f)) := by
    intro l
    induction l with
    | nil => intro s; simp [putAllD]
    | cons a l ih =>
      intro s
      show (lkD (putAllD (putD s (Sum.inl (f a)) v) (l.map fun z => ((Sum.inl (f z) : Key), v))) (.inl x)).isSome = _
      rw [ih, lkD_put]
      by_cases e : f a = x
      · rw [if_pos (by rw [e]), decide_eq_true (show x ∈ (a :: l).map f from by rw [List.map_cons, e]; exact List.mem_cons_self)]
        simp
      · rw [if_neg (fun q => e (Sum.inl.inj q))]
        congr 1
        rw [List.map_cons]
        exact decide_eq_decide.mpr ⟨fun h => List.mem_cons_of_mem _ h, fun h => (List.mem_cons.mp h).elim (fun q => absurd q.symm e) id⟩
  rw [main l []]
  simp [lkD]
def palR (q : Nat) (a : Int) : List (Int × Int) := ((upN q a).filter fun b => sqB q (b - a)).map fun b => (a, b)
theorem pal_take {q k : Nat} (hk : k < q) : ((names q).take (k + 1)).flatMap (palR q) = ((names q).take k).flatMap (palR q) ++ palR q k := by
  have e : (names q)[k]? = some (k : Int) := by
    unfold names
    rw [List.getElem?_map, List.getElem?_range hk]; rfl
  rw [List.take_add_one, e, List.flatMap_append]
  show _ ++ [(k : Int)].flatMap (palR q) = _
  rw [List.flatMap_singleton]
theorem palR_len (q : Nat) (a : Int) (h : 0 ≤ a) : (palR q a).length ≤ q := by
  unfold palR
  rw [List.length_map]
  have := List.length_filter_le (fun b => sqB q (b - a)) (upN q a)
  have := upN_len q a
  omega
theorem pal_len (q : Nat) : ∀ k, (((names q).take k).flatMap (palR q)).length ≤ k * q
  | 0 => by simp
  | k + 1 => by
    by_cases hk : k < q
    · rw [pal_take hk, List.length_append]
      have := pal_len q k
      have := palR_len q k (by omega)
      rw [Nat.add_mul]; omega
    · rw [List.take_of_length_le (by rw [names_len]; omega)]
      have := pal_len q k
      rw [List.take_of_length_le (by rw [names_len]; omega)] at this
      rw [Nat.add_mul]; omega
theorem palR_D (q : Nat) (a : Int) : pD (palR q a) = ((upN q a).filter fun b => sqB q (b - a)).map fun b => prD (a, b) := by
  rw [eqv_pD]
  unfold palR
  rw [List.map_map]; rfl
abbrev nLT : List Str := ["n", "ties", "arrows", "a", "b"]
theorem scLT : FnScope nLT ["n", "ties"] (defScope s__law_of_ties) := ⟨rfl, rfl, rfl, by decide +kernel, rfl, by decide +kernel, by decide +kernel⟩
abbrev nLP : List Str := ["q", "squares", "ties", "a", "x", "b"]
theorem scLP : FnScope nLP ["q"] (defScope s__law_paley) := ⟨rfl, rfl, rfl, by decide +kernel, rfl, by decide +kernel, by decide +kernel⟩
section
variable {P : Program} {w : World} {K : PySem.W.Frag} {mg : Str → Option Value} {base : Heap}
theorem ok_lot {f : Addr} {fd : FuncData} (D : Df K mg "_law_of_ties" s__law_of_ties f fd ["n", "ties"]) (T : Bt mg) : FnG P w K mg base 1 f fd ["n", "ties"] (spP K psWT) := by
  refine fnP_of D.fn scLT (fun ds d ⟨_, _, _, _, _, e, _⟩ => by rw [e]; rfl) ?_
  rintro cdv A outer s H E ds d' hg hr ⟨n, l, n1, n2, hl, rfl, rfl⟩
  have hu : (A.deeper (envOfC "_law_of_ties" (defScope s__law_of_ties) s.heap.objs.size f cdv)).units + 100 < cLine := by have := hr.un; omega
  have hw5 := Nat.lt_of_le_of_lt (Nat.add_le_add_left (by decide : 65 ≤ 100) _) hu
  have hw := Nat.lt_of_le_of_lt (Nat.add_le_add_left (by decide : 64 ≤ 100) _) hu
  have z1 : (100000 : Nat) ≤ sizeLine := by decide
  have lpD : (pD l).length = l.length := pD_len l
  have eS : pD (l.map swpT) = l.map fun q => prD (swpT q) := by rw [eqv_pD, List.map_map]; rfl
  have l2 : (pD (l.map swpT)).length = l.length := by rw [pD_len, List.length_map]
  suffices h : DB _ [.d (.int n), .d (.list (pD l)), .un, .un, .un] (defBody s__law_of_ties) (.rt (wbD (tiW n l)) [.d (.int n), .d (.list (pD l)), .un, .un, .un]) from ⟨_, h⟩
  refine db_cons (ds_set (i := 2) (y := .list (pD (tieL l))) (ρ1 := [.d (.int n), .d (.list (pD l)), .un, .un, .un]) scLT.nd (DL.de (dl_is (by unfold tieL; rw [pD_app]) (dl_catS (xs := pD l) (ys := pD (l.map swpT)) (by rw [lpD, l2]; omega) .d .d (DL.de (dl_list (.l .d) T.list_ (nv 1))) (DL.de (dl_is eS.symm (dl_mapA l prD (fun q => prD (swpT q)) [("a", 3), ("b", 4)] rfl scLT.nd (blkOk_by (N := nLT) (sc := defScope s__law_of_ties) (by decide +kernel)) (di_list (de_is (nv 1) (by rw [eqv_pD]))) (by (intro j hj; first | (cases hj with | head => rfl | tail _ h => cases h) | (cases hj with | head => rfl | tail _ h => cases h with | head => rfl | tail _ h => cases h) | (cases hj with | head => rfl | tail _ h => cases h with | head => rfl | tail _ h => cases h with | head => rfl | tail _ h => cases h))) (fun q hq => ⟨_, _, _, fun _ _ _ _ _ => (dg_tup rfl (dgs_cons (dg_name (i := 3) scLT.nd) (dgs_cons (dg_name (i := 4) scLT.nd) dgs_nil))), fun _ _ _ _ _ => (de_tup (da_cons (nv 4) (da_cons (nv 3) da_nil))), by simp, by first | exact G.Wk.refl _ | (repeat (first | exact G.Wk.nil | apply G.Wk.cons | apply G.Wk.drop))⟩) (by omega)))))))) ?_
  refine db_at [.d (.int n), .d (.list (pD l)), .d (.list (pD (tieL l))), .un, .un] rfl ?_
  exact db_rtW (ρ1 := [.d (.int n), .d (.list (pD l)), .d (.list (pD (tieL l))), .un, .un]) (db_one (ds_ret (de_tup (da_cons (nv 0) (da_cons (de_is (de_repA (xs := [.int 0]) (k := (n : Int)) (by omega) (by omega) (by simp) (by simp) (de_tup (da_cons de_int da_nil)) (nv 0)) (by rw [Int.toNat_natCast, zeros_eq]; rfl)) (da_cons (de_sortP (l := tieL l) hu .d T.tuple_ T.sorted_ (nv 2)) da_nil)))))) (by first | exact G.Wk.refl _ | (repeat (first | exact G.Wk.nil | apply G.Wk.cons | apply G.Wk.drop)))
theorem ok_lpa {f f1 : Addr} {fd fd1 : FuncData} (D : Df K mg "_law_paley" s__law_paley f fd ["q"]) (D1 : Df K mg "_law_of_ties" s__law_of_ties f1 fd1 ["n", "ties"]) (T : Bt mg) : FnG P w K mg base 2 f fd ["q"] (spP K psPW) := by
  have gW := ok_lot (P := P) (w := w) (base := base) D1 T
  refine fnP_of D.fn scLP (fun ds d ⟨_, _, _, e, _⟩ => by rw [e]; rfl) ?_
  rintro cdv A outer s H E ds d' hg hr ⟨q, q1, q2, rfl, rfl⟩
  have hu : (A.deeper (envOfC "_law_paley" (defScope s__law_paley) s.heap.objs.size f cdv)).units + 100 < cLine := by have := hr.un; omega
  have hw5 := Nat.lt_of_le_of_lt (Nat.add_le_add_left (by decide : 65 ≤ 100) _) hu
  have hw := Nat.lt_of_le_of_lt (Nat.add_le_add_left (by decide : 64 ≤ 100) _) hu
  have z1 : (100000 : Nat) ≤ sizeLine := by decide
  suffices h : DB _ [.d (.int q), .un, .un, .un, .un, .un] (defBody s__law_paley) (.rt (wbD (palW q)) [.d (.int q), .un, .un, .un, .un, .un]) from ⟨_, h⟩
  have ul := upN_len q 0
  have sl : (sqL q).length ≤ 100 := by unfold sqL; rw [List.length_map]; omega
  refine db_cons (ds_asgLL (i := 1) (j := 2) (xs := (sqL q).map .int) (ys := []) (ρ1 := [.d (.int q), .un, .un, .un, .un, .un]) (ρ2 := [.d (.int q), .un, .un, .un, .un, .un]) rfl scLP.nd (dl_is (by unfold sqL; rw [List.map_map]; rfl) (dl_mapA (upN q 0) .int (fun x => .int (x * x % (q : Int))) [("x", 4)] rfl scLP.nd (blkOk_by (N := nLP) (sc := defScope s__law_paley) (by decide +kernel)) (di_is (upN_D q (by omega)) (di_range2 (m := (0 : Int) + 1) (n := q) T.range_ (by omega) (da_cons de_int (da_cons (nv 0) da_nil)))) (by (intro j hj; first | (cases hj with | head => rfl | tail _ h => cases h) | (cases hj with | head => rfl | tail _ h => cases h with | head => rfl | tail _ h => cases h) | (cases hj with | head => rfl | tail _ h => cases h with | head => rfl | tail _ h => cases h with | head => rfl | tail _ h => cases h))) (fun x hx => ?_) (by omega))) (dl_lst (xs := []) da_nil) (by decide)) ?_
  · have := upN_in (by omega) hx
    exact ⟨_, _, _, fun _ _ _ _ _ => dg_name (i := 4) scLP.nd, fun _ _ _ _ _ => de_mod (by omega) (de_intI T.int_ (de_mul (.inl (by omega)) (nv 4) (nv 4))) (nv 0), by simp, by first | exact G.Wk.refl _ | (repeat (first | exact G.Wk.nil | apply G.Wk.cons | apply G.Wk.drop))⟩
  refine db_still (i := 1) (xs := (sqL q).map .int) ?_
  refine db_still (i := 2) (xs := []) ?_
  refine db_at [.d (.int q), .d (.list ((sqL q).map .int)), .d (.list []), .un, .un, .un] rfl ?_
  refine db_cons (ds_for PassesOwn.never rfl (di_names (n := q) T.range_ (by omega) (nv 0)) (fun k => [.d (.int q), .d (.list ((sqL q).map .int)), .d (.list (pD (((names q).take k).flatMap (palR q)))), .un, .un, .un]) (Wk.refl _) (fun k z hz => ?_) (ρ2 := [.d (.int q), .d (.list ((sqL q).map .int)), .d (.list (pD (palT q))), .un, .un, .un]) (by rw [List.length_map, List.take_length]; rfl)) ?_
  · rw [← names_D] at hz
    obtain ⟨hk, rfl⟩ := range_get hz
    have lk : (pD (((names q).take k).flatMap (palR q))).length ≤ 1000 := by
      rw [pD_len]
      exact Nat.le_trans (pal_len q k) (Nat.le_trans (Nat.mul_le_mul (show k ≤ 29 by omega) q2) (by decide))
    rw [pal_take hk, pD_app]
    refine ⟨_, _, dg_name (i := 3) scLP.nd, ?_⟩
    refine db_at [.d (.int q), .d (.list ((sqL q).map .int)), .d (.list (pD (((names q).take k).flatMap (palR q)))), .d (.int (k : Nat)), .un, .un] rfl ?_
    have rl : (pD (palR q k)).length ≤ 100 := by rw [pD_len]; exact Nat.le_trans (palR_len q k (by omega)) (by omega)
    have ul := upN_len q (k : Int)
    refine db_nx (ds_set (i := 2) (y := .list (pD (((names q).take k).flatMap (palR q)) ++ pD (palR q k))) (ρ1 := [.d (.int q), .d (.list ((sqL q).map .int)), .d (.list (pD (((names q).take k).flatMap (palR q)))), .d (.int (k : Nat)), .un, .un]) scLP.nd (DL.de (dl_catS (xs := pD (((names q).take k).flatMap (palR q))) (ys := pD (palR q k)) (Nat.le_trans (Nat.add_le_add lk rl) (Nat.le_of_ble_eq_true rfl)) .d .d (nv 2) (DL.de (dl_is (palR_D q k).symm (dl_filtA (upN q (k : Int)) .int (fun b => prD ((k : Int), b)) (fun b => sqB q (b - (k : Int))) [("b", 5)] rfl scLP.nd (blkOk_by (N := nLP) (sc := defScope s__law_paley) (by decide +kernel)) (di_is (upN_D q (by omega)) (di_range2 (m := (k : Int) + 1) (n := q) T.range_ (by omega) (da_cons (de_add (nv 3) de_int) (da_cons (nv 0) da_nil)))) (by (intro j hj; first | (cases hj with | head => rfl | tail _ h => cases h) | (cases hj with | head => rfl | tail _ h => cases h with | head => rfl | tail _ h => cases h) | (cases hj with | head => rfl | tail _ h => cases h with | head => rfl | tail _ h => cases h with | head => rfl | tail _ h => cases h))) (fun b hb => ⟨_, _, _, _, fun _ _ _ _ _ => dg_name (i := 5) scLP.nd, fun _ _ _ _ _ => dt_is (dt_inL hw5 sx_int.sh (ints_shT _) (show DE _ _ _ (.d (.int ((b - (k : Int)) % (q : Int)))) _ from de_mod (by omega) (de_intI T.int_ (de_sub (nv 5) (nv 3))) (nv 0)) (nv 1)) (by rw [any_ints]; rfl), fun _ _ _ _ _ _ => (de_tup (da_cons (nv 3) (da_cons (nv 5) da_nil))), by simp, by first | exact G.Wk.refl _ | (repeat (first | exact G.Wk.nil | apply G.Wk.cons | apply G.Wk.drop)), by first | exact G.Wk.refl _ | (repeat (first | exact G.Wk.nil | apply G.Wk.cons | apply G.Wk.drop))⟩) (by omega))))))) (by first | exact G.Wk.refl _ | (repeat (first | exact G.Wk.nil | apply G.Wk.cons | apply G.Wk.drop)))
  have lT : (palT q).length ≤ 1000 := by
    have := pal_len q q
    rw [List.take_of_length_le (by rw [names_len]; exact Nat.le_refl _)] at this
    exact Nat.le_trans this (Nat.le_trans (Nat.mul_le_mul q2 q2) (by decide))
  exact db_rtW (ρ1 := [.d (.int q), .d (.list ((sqL q).map .int)), .d (.list (pD (palT q))), .un, .un, .un]) (db_one (ds_ret (de_callP gW hg (hr.mono (by omega)) D1.mg D1.kp D1.bd (ds := [.int q, .list (pD (palT q))]) (d := wbD (palW q)) ⟨q, palT q, q1, by omega, lT, rfl, rfl⟩ (da_cons (nv 0) (da_cons (nv 2) da_nil))))) (by first | exact G.Wk.refl _ | (repeat (first | exact G.Wk.nil | apply G.Wk.cons | apply G.Wk.drop)))
end
end G

set_option Elab.async false
set_option linter.all false
set_option maxRecDepth 100000
set_option maxHeartbeats 4000000
/- shapes; webs compared -/
namespace G
open PySem L2 PySem.Spec PyProof.Rows
theorem nil_shZ : SeqAt.shaped (.list []) = true := by decide +kernel
theorem wb_shZ (W : Wb) : SeqAt.shaped (wbD W) = true := (sx_tup (n := 2) fun d hd => by
  simp only [List.mem_cons, List.not_mem_nil, or_false] at hd
  rcases hd with rfl | rfl | rfl
  · exact sx_int.mono (by decide)
  · exact (sx_tup (n := 0) fun x hx => by
      obtain ⟨i, _, rfl⟩ := List.mem_map.mp hx
      exact sx_int).mono (by decide)
  · refine sx_tup (n := 1) fun x hx => ?_
    rw [show (W.arr.map pK).map NestedKey.data = pD W.arr from rfl, pD_eq] at hx
    obtain ⟨q, _, rfl⟩ := List.mem_map.mp hx
    exact sx_tup (n := 0) fun y hy => by
      simp only [List.mem_cons, List.not_mem_nil, or_false] at hy
      rcases hy with rfl | rfl <;> exact sx_int).sh
theorem tup_shZ (l : List Int) : SeqAt.shaped (.tuple (l.map .int)) = true := (sx_tup (n := 0) fun x hx => by
  obtain ⟨i, _, rfl⟩ := List.mem_map.mp hx
  exact sx_int).sh
theorem int_shZ (i : Int) : SeqAt.shaped (.int i) = true := sx_int.sh
theorem any_intsZ (l : List Int) (y : Int) : ((l.map PyData.int).any fun z => PyData.eqv z (.int y)) = decide (y ∈ l) := by
  rw [List.any_map]
  induction l with
  | nil => rfl
  | cons a l ih =>
    rw [List.any_cons, ih]
    show (decide (a = y) || decide (y ∈ l)) = _
    by_cases h : a = y
    · subst h; simp
    · have : ¬ y = a := fun e => h e.symm
      simp [h, this]
theorem nil_eqvZ (l : List PyData) : PyData.eqv (.list l) (.list []) = l.isEmpty := by
  cases l <;> simp [PyData.eqv, PyData.eqvAll]
end G

set_option Elab.async false
set_option linter.all false
set_option maxRecDepth 100000
set_option maxHeartbeats 4000000
/- wishes, walked -/
namespace G
open PySem L2 PySem.Spec PyProof.Rows
def bodyF : Stmt → List Stmt
  | .For _ _ b _ _ => b
  | _ => []
def nthS (l : List Stmt) (i : Nat) : Stmt := l.getD i (.Pass ⟨0, 0, 0, 0⟩)
def rowT7 (r : List Int) : PyData := .tuple (r.map .int)
def psMB (ds : List PyData) (d : PyData) : Prop := ∃ (W : Wb) (r p : List Int) (x : Int), W.n ≤ 100 ∧ r.length = p.length ∧ r.length ≤ 100 ∧ ds = [wbD W, .tuple (r.map .int), .tuple (p.map .int), .int x] ∧ d = .bool (metF (adjW W) r p x)
def psMN (ds : List PyData) (d : PyData) : Prop := ∃ (W : Wb) (r p : List Int), W.n ≤ 100 ∧ r.length = p.length ∧ r.length ≤ 100 ∧ ds = [wbD W, .tuple (r.map .int), .tuple (p.map .int)] ∧ d = .list ((meetF W.n (adjW W) r p).map .int)
def psIM (ds : List PyData) (d : PyData) : Prop := ∃ (W : Wb) (r p : List Int), W.n ≤ 100 ∧ r.length = p.length ∧ r.length ≤ 100 ∧ ds = [wbD W, .tuple (r.map .int), .tuple (p.map .int)] ∧ d = .bool (!(meetF W.n (adjW W) r p).isEmpty)
def psRN (ds : List PyData) (d : PyData) : Prop := ∃ n m : Nat, n ≤ 30 ∧ m ≤ 2 ∧ ds = [.int n, .int m] ∧ d = .list ((rowsN n m).map rowT7)
def psAP (ds : List PyData) (d : PyData) : Prop := ∃ m : Nat, m ≤ 2 ∧ ds = [.int m] ∧ d = .list ((patsN m).map rowT7)
def optW (o : Option PyData) : PyData := o.getD .none
def psMW (ds : List PyData) (d : PyData) : Prop := ∃ (W : Wb) (k : Nat), W.n ≤ 30 ∧ k ≤ 3 ∧ ds = [wbD W, .int k] ∧ d = optW (missF W.n (adjW W) k)
theorem eqv_pairT (a b : Int) : SeqAt.shaped (.tuple [.int a, .int b]) = true := pl_shaped (pK_pl (a, b)) (Nat.le_trans (pK_depth (a, b)) (by decide))
theorem zipD_intsW (xs ys : List Int) : zipD (xs.map .int) (ys.map .int) = (xs.zip ys).map prD := by
  unfold zipD
  rw [List.zip_map, List.map_map]; rfl
def extR (n : Nat) (row : List Int) : List (List Int) := ((names n).filter fun x => decide (x ∉ row)).map fun x => row ++ [x]
theorem rows_succ (n k : Nat) : rowsN n (k + 1) = (rowsN n k).flatMap (extR n) := rfl
theorem extR_len (n : Nat) (row : List Int) : (extR n row).length ≤ n := by
  unfold extR
  rw [List.length_map]
  exact Nat.le_trans (List.length_filter_le _ _) (by rw [names_len]; exact Nat.le_refl _)
theorem flat_lenW {α β : Type} {f : α → List β} {c : Nat} : ∀ {l : List α}, (∀ x ∈ l, (f x).length ≤ c) → (l.flatMap f).length ≤ l.length * c
  | [], _ => by simp
  | x :: l, h => by
    rw [List.flatMap_cons, List.length_append, List.length_cons, Nat.add_mul]
    have h1 := h x List.mem_cons_self
    have h2 := flat_lenW fun y hy => h y (List.mem_cons_of_mem _ hy)
    omega
theorem rows_few (n : Nat) : ∀ k, (rowsN n k).length ≤ n ^ k
  | 0 => by simp [rowsN]
  | k + 1 => by
    rw [rows_succ, Nat.pow_succ]
    exact Nat.le_trans (flat_lenW fun x _ => extR_len n x) (Nat.mul_le_mul_right n (rows_few n k))
theorem pats_few : ∀ k, (patsN k).length = 2 ^ k
  | 0 => rfl
  | k + 1 => by
    have ih := pats_few k
    show ((patsN k).flatMap fun p => [p ++ [0], p ++ [1]]).length = _
    rw [Nat.pow_succ, ← ih]
    generalize patsN k = l
    induction l with
    | nil => rfl
    | cons p l ih =>
      rw [List.flatMap_cons, List.length_append, ih]
      simp only [List.length_cons, List.length_nil]; omega
theorem take_flat {α β : Type} {f : α → List β} {l : List α} {k : Nat} {x : α} (h : l[k]? = some x) : (l.take (k + 1)).flatMap f = (l.take k).flatMap f ++ f x := by
  rw [List.take_add_one, h, List.flatMap_append]
  show _ ++ [x].flatMap f = _
  rw [List.flatMap_singleton]
theorem map_get {α β : Type} {f : α → β} {l : List α} {k : Nat} {z : β} (h : (l.map f)[k]? = some z) : ∃ x, l[k]? = some x ∧ z = f x := by
  rw [List.getElem?_map] at h
  cases e : l[k]? with
  | none => rw [e] at h; cases h
  | some x => rw [e] at h; cases h; exact ⟨x, rfl, rfl⟩
theorem in_arrW (W : Wb) (a b : Int) : (((W.arr.map pK).map NestedKey.data).any fun z => PyData.eqv z (.tuple [.int a, .int b])) = adjW W a b := in_arr W a b
abbrev nMB : List Str := ["web", "row", "pattern", "name", "one", "tied"]
theorem scMB : FnScope nMB ["web", "row", "pattern", "name"] (defScope s_is_met_by) := ⟨rfl, rfl, rfl, by decide +kernel, rfl, by decide +kernel, by decide +kernel⟩
abbrev nMN : List Str := ["web", "row", "pattern", "name"]
theorem scMN : FnScope nMN ["web", "row", "pattern"] (defScope s_meeting_names) := ⟨rfl, rfl, rfl, by decide +kernel, rfl, by decide +kernel, by decide +kernel⟩
abbrev nIM : List Str := ["web", "row", "pattern"]
theorem scIM : FnScope nIM ["web", "row", "pattern"] (defScope s_is_met) := ⟨rfl, rfl, rfl, by decide +kernel, rfl, by decide +kernel, by decide +kernel⟩
abbrev nRNm : List Str := ["n", "many", "found", "lap", "late", "row", "name"]
theorem scRNm : FnScope nRNm ["n", "many"] (defScope s_rows_of_names) := ⟨rfl, rfl, rfl, by decide +kernel, rfl, by decide +kernel, by decide +kernel⟩
abbrev nAP : List Str := ["many", "found", "lap", "late", "pattern"]
theorem scAP : FnScope nAP ["many"] (defScope s_all_patterns) := ⟨rfl, rfl, rfl, by decide +kernel, rfl, by decide +kernel, by decide +kernel⟩
abbrev nMW : List Str := ["web", "k", "many", "row", "pattern"]
theorem scMW : FnScope nMW ["web", "k"] (defScope s_missing_wish) := ⟨rfl, rfl, rfl, by decide +kernel, rfl, by decide +kernel, by decide +kernel⟩
section
variable {P : Program} {w : World} {K : PySem.W.Frag} {mg : Str → Option Value} {base : Heap}
theorem ok_mb {f : Addr} {fd : FuncData} (D : Df K mg "is_met_by" s_is_met_by f fd ["web", "row", "pattern", "name"]) (T : Bt mg) : FnG P w K mg base 1 f fd ["web", "row", "pattern", "name"] (spP K psMB) := by
  refine fnP_of D.fn scMB (fun ds d ⟨_, _, _, _, _, _, _, e, _⟩ => by rw [e]; rfl) ?_
  rintro cdv A outer s H E ds d' hg hr ⟨W, r, p, x, n1, hl, h1, rfl, rfl⟩
  have hu : (A.deeper (envOfC "is_met_by" (defScope s_is_met_by) s.heap.objs.size f cdv)).units + 100 < cLine := by have := hr.un; omega
  have hw5 := Nat.lt_of_le_of_lt (Nat.add_le_add_left (by decide : 65 ≤ 100) _) hu
  have hw := Nat.lt_of_le_of_lt (Nat.add_le_add_left (by decide : 64 ≤ 100) _) hu
  have z1 : (100000 : Nat) ≤ sizeLine := by decide
  suffices h : DB _ [.d (wbD W), .d (.tuple (r.map .int)), .d (.tuple (p.map .int)), .d (.int x), .un, .un] (defBody s_is_met_by) (.rt (.bool (metF (adjW W) r p x)) [.d (wbD W), .d (.tuple (r.map .int)), .d (.tuple (p.map .int)), .d (.int x), .un, .un]) from ⟨_, h⟩
  unfold metF
  by_cases hx : x ∈ r
  · rw [decide_eq_true hx]
    exact db_ifT (ρ1 := [.d (wbD W), .d (.tuple (r.map .int)), .d (.tuple (p.map .int)), .d (.int x), .un, .un]) (dt_is (dt_is (dt_inT (ds := r.map .int) hw5 sx_int.sh (tup_shZ _) (nv 3) (nv 1)) (any_ints r x)) (decide_eq_true hx)) (db_one (ds_ret de_bl))
  · rw [decide_eq_false hx]
    refine db_ifF (ρ1 := [.d (wbD W), .d (.tuple (r.map .int)), .d (.tuple (p.map .int)), .d (.int x), .un, .un]) (dt_is (dt_is (dt_inT (ds := r.map .int) hw5 sx_int.sh (tup_shZ _) (nv 3) (nv 1)) (any_ints r x)) (decide_eq_false hx)) ?_
    refine db_one (ds_ret (de_is (de_all (bs := (r.zip p).map fun q => adjW W x q.1 == decide (q.2 = 1)) rfl (DL.ld (dl_is ?_ (dl_mapA (r.zip p) prD (fun q => .bool (adjW W x q.1 == decide (q.2 = 1))) [("one", 4), ("tied", 5)] rfl scMB.nd (blkOk_by (N := nMB) (sc := defScope s_is_met_by) (by decide +kernel)) (di_is (zipD_intsW r p) (di_zip (xs := r.map .int) (ys := p.map .int) .t .t (by rw [List.length_map, List.length_map, hl]) T.zip_ (nv 1) (nv 2))) (by (intro j hj; first | (cases hj with | head => rfl | tail _ h => cases h) | (cases hj with | head => rfl | tail _ h => cases h with | head => rfl | tail _ h => cases h) | (cases hj with | head => rfl | tail _ h => cases h with | head => rfl | tail _ h => cases h with | head => rfl | tail _ h => cases h))) (fun q hq => ⟨_, _, _, fun _ _ _ _ _ => (dg_tup rfl (dgs_cons (dg_name (i := 4) scMB.nd) (dgs_cons (dg_name (i := 5) scMB.nd) dgs_nil))), fun _ _ _ _ _ => de_is (de_cmp op_eq od_eqB (nomark _) (de_is (de_inT hw5 (eqv_pairT x q.1) (arr_shaped W.arr) (de_tup (da_cons (nv 3) (da_cons (nv 4) da_nil))) (de_w2 (W := W) (nv 0))) (by rw [in_arrW])) (de_cmp op_eq od_eqI (nomark _) (nv 5) de_int)) ?_, by simp, by first | exact G.Wk.refl _ | (repeat (first | exact G.Wk.nil | apply G.Wk.cons | apply G.Wk.drop))⟩) (by rw [List.length_zip]; omega)))) T.all_) ?_))
    · rw [List.map_map]; rfl
    · rw [Bool.beq_eq_decide_eq]
    · rw [List.all_map]; rfl
theorem ok_mn {f f1 : Addr} {fd fd1 : FuncData} (D : Df K mg "meeting_names" s_meeting_names f fd ["web", "row", "pattern"]) (D1 : Df K mg "is_met_by" s_is_met_by f1 fd1 ["web", "row", "pattern", "name"]) (T : Bt mg) : FnG P w K mg base 2 f fd ["web", "row", "pattern"] (spP K psMN) := by
  have gB := ok_mb (P := P) (w := w) (base := base) D1 T
  refine fnP_of D.fn scMN (fun ds d ⟨_, _, _, _, _, _, e, _⟩ => by rw [e]; rfl) ?_
  rintro cdv A outer s H E ds d' hg hr ⟨W, r, p, n1, hl, h1, rfl, rfl⟩
  have hu : (A.deeper (envOfC "meeting_names" (defScope s_meeting_names) s.heap.objs.size f cdv)).units + 100 < cLine := by have := hr.un; omega
  have hw5 := Nat.lt_of_le_of_lt (Nat.add_le_add_left (by decide : 65 ≤ 100) _) hu
  have hw := Nat.lt_of_le_of_lt (Nat.add_le_add_left (by decide : 64 ≤ 100) _) hu
  have z1 : (100000 : Nat) ≤ sizeLine := by decide
  suffices h : DB _ [.d (wbD W), .d (.tuple (r.map .int)), .d (.tuple (p.map .int)), .un] (defBody s_meeting_names) (.rt (.list ((meetF W.n (adjW W) r p).map .int)) [.d (wbD W), .d (.tuple (r.map .int)), .d (.tuple (p.map .int)), .un]) from ⟨_, h⟩
  exact db_one (ds_ret (DL.de (dl_filtA (names W.n) .int .int (metF (adjW W) r p) [("name", 3)] rfl scMN.nd (blkOk_by (N := nMN) (sc := defScope s_meeting_names) (by decide +kernel)) (di_names (n := W.n) T.range_ (by omega) (de_w0 (W := W) (nv 0))) (by (intro j hj; first | (cases hj with | head => rfl | tail _ h => cases h) | (cases hj with | head => rfl | tail _ h => cases h with | head => rfl | tail _ h => cases h) | (cases hj with | head => rfl | tail _ h => cases h with | head => rfl | tail _ h => cases h with | head => rfl | tail _ h => cases h))) (fun x hx => ⟨_, _, _, _, fun _ _ _ _ _ => dg_name (i := 3) scMN.nd, fun _ _ _ _ _ => dt_val (de_callP gB hg (hr.mono (by omega)) D1.mg D1.kp D1.bd (ds := [wbD W, .tuple (r.map .int), .tuple (p.map .int), .int x]) (d := .bool (metF (adjW W) r p x)) ⟨W, r, p, x, n1, hl, h1, rfl, rfl⟩ (da_cons (nv 0) (da_cons (nv 1) (da_cons (nv 2) (da_cons (nv 3) da_nil))))), fun _ _ _ _ _ _ => (nv 3), by simp, by first | exact G.Wk.refl _ | (repeat (first | exact G.Wk.nil | apply G.Wk.cons | apply G.Wk.drop)), by first | exact G.Wk.refl _ | (repeat (first | exact G.Wk.nil | apply G.Wk.cons | apply G.Wk.drop))⟩) (by rw [names_len]; omega))))
theorem ok_im {f f1 f2 : Addr} {fd fd1 fd2 : FuncData} (D : Df K mg "is_met" s_is_met f fd ["web", "row", "pattern"]) (D1 : Df K mg "meeting_names" s_meeting_names f1 fd1 ["web", "row", "pattern"]) (D2 : Df K mg "is_met_by" s_is_met_by f2 fd2 ["web", "row", "pattern", "name"]) (T : Bt mg) : FnG P w K mg base 3 f fd ["web", "row", "pattern"] (spP K psIM) := by
  have gN := ok_mn (P := P) (w := w) (base := base) D1 D2 T
  refine fnP_of D.fn scIM (fun ds d ⟨_, _, _, _, _, _, e, _⟩ => by rw [e]; rfl) ?_
  rintro cdv A outer s H E ds d' hg hr ⟨W, r, p, n1, hl, h1, rfl, rfl⟩
  have hu : (A.deeper (envOfC "is_met" (defScope s_is_met) s.heap.objs.size f cdv)).units + 100 < cLine := by have := hr.un; omega
  have hw5 := Nat.lt_of_le_of_lt (Nat.add_le_add_left (by decide : 65 ≤ 100) _) hu
  have hw := Nat.lt_of_le_of_lt (Nat.add_le_add_left (by decide : 64 ≤ 100) _) hu
  have z1 : (100000 : Nat) ≤ sizeLine := by decide
  suffices h : DB _ [.d (wbD W), .d (.tuple (r.map .int)), .d (.tuple (p.map .int))] (defBody s_is_met) (.rt (.bool (!(meetF W.n (adjW W) r p).isEmpty)) [.d (wbD W), .d (.tuple (r.map .int)), .d (.tuple (p.map .int))]) from ⟨_, h⟩
  exact db_one (ds_ret (de_is (de_neDk hw (ints_shT _) nil_shZ (de_callP gN hg (hr.mono (by omega)) D1.mg D1.kp D1.bd (ds := [wbD W, .tuple (r.map .int), .tuple (p.map .int)]) (d := .list ((meetF W.n (adjW W) r p).map .int)) ⟨W, r, p, n1, hl, h1, rfl, rfl⟩ (da_cons (nv 0) (da_cons (nv 1) (da_cons (nv 2) da_nil)))) (DL.de (dl_lst (xs := []) da_nil))) (by rw [nil_eqvZ]; cases meetF W.n (adjW W) r p <;> rfl)))
theorem ok_rnm {f : Addr} {fd : FuncData} (D : Df K mg "rows_of_names" s_rows_of_names f fd ["n", "many"]) (T : Bt mg) : FnG P w K mg base 1 f fd ["n", "many"] (spP K psRN) := by
  refine fnP_of D.fn scRNm (fun ds d ⟨_, _, _, _, e, _⟩ => by rw [e]; rfl) ?_
  rintro cdv A outer s H E ds d' hg hr ⟨n, m, n3, m2, rfl, rfl⟩
  have hu : (A.deeper (envOfC "rows_of_names" (defScope s_rows_of_names) s.heap.objs.size f cdv)).units + 100 < cLine := by have := hr.un; omega
  have hw5 := Nat.lt_of_le_of_lt (Nat.add_le_add_left (by decide : 65 ≤ 100) _) hu
  have hw := Nat.lt_of_le_of_lt (Nat.add_le_add_left (by decide : 64 ≤ 100) _) hu
  have z1 : (100000 : Nat) ≤ sizeLine := by decide
  suffices h : DB _ [.d (.int n), .d (.int m), .un, .un, .un, .un, .un] (defBody s_rows_of_names) (.rt (.list ((rowsN n m).map rowT7)) [.d (.int n), .d (.int m), .un, .un, .un, .un, .un]) from ⟨_, h⟩
  refine db_cons (ds_set (i := 2) (y := .list [.tuple []]) (ρ1 := [.d (.int n), .d (.int m), .un, .un, .un, .un, .un]) scRNm.nd (DL.de (dl_lst (xs := [.tuple []]) (da_cons (de_tup (xs := []) da_nil) da_nil)))) ?_
  refine db_cons (ds_for PassesOwn.never rfl (di_range (n := m) T.range_ (by omega) (da_cons (nv 1) da_nil)) (fun k => [.d (.int n), .d (.int m), .d (.list ((rowsN n (k)).map rowT7)), .un, .un, .un, .un]) (Wk.refl _) (fun k z hz => ?_) (ρ2 := [.d (.int n), .d (.int m), .d (.list ((rowsN n (m)).map rowT7)), .un, .un, .un, .un]) (by rw [rangeD_len, Int.toNat_natCast])) ?_
  · obtain ⟨hk, rfl⟩ := range_get hz
    have f1 := Nat.le_trans (rows_few n k) (Nat.pow_le_pow_left n3 k)
    have f2 : (rowsN n k).length ≤ 30 := Nat.le_trans f1 (by have : k = 0 ∨ k = 1 := by omega
                                                             rcases this with rfl | rfl <;> decide)
    refine ⟨_, _, dg_name (i := 3) scRNm.nd, ?_⟩
    refine db_at [.d (.int n), .d (.int m), .d (.list ((rowsN n (k)).map rowT7)), .d (.int (k : Nat)), .un, .un, .un] rfl ?_
    refine db_cons (ds_set (i := 4) (y := .list []) (ρ1 := [.d (.int n), .d (.int m), .d (.list ((rowsN n (k)).map rowT7)), .d (.int (k : Nat)), .un, .un, .un]) scRNm.nd (DL.de (dl_lst (xs := []) da_nil))) ?_
    refine db_cons (ds_for PassesOwn.never rfl (di_list (nv 2)) (fun j => [.d (.int n), .d (.int m), .d (.list ((rowsN n (k)).map rowT7)), .d (.int (k : Nat)), .d (.list ((((rowsN n k).take j).flatMap (extR n)).map rowT7)), .un, .un]) (Wk.refl _) (fun j y hy => ?_) (ρ2 := [.d (.int n), .d (.int m), .d (.list ((rowsN n (k)).map rowT7)), .d (.int (k : Nat)), .d (.list ((rowsN n (k + 1)).map rowT7)), .un, .un]) (by rw [List.length_map, List.take_length]; rfl)) ?_
    · obtain ⟨row, hrw, rfl⟩ := map_get hy
      have hm := rowsN_in (List.mem_of_getElem? hrw)
      have lt : (((rowsN n k).take j).flatMap (extR n)).length ≤ 900 := Nat.le_trans (flat_lenW fun x _ => extR_len n x) (Nat.le_trans (Nat.mul_le_mul (show _ ≤ 30 by rw [List.length_take]; omega) n3) (by decide))
      have le := extR_len n row
      rw [take_flat hrw, List.map_append]
      generalize ((rowsN n k).take j).flatMap (extR n) = L at lt ⊢
      refine ⟨_, _, dg_name (i := 5) scRNm.nd, ?_⟩
      refine db_at [.d (.int n), .d (.int m), .d (.list ((rowsN n (k)).map rowT7)), .d (.int (k : Nat)), .d (.list (L.map rowT7)), .d (.tuple (row.map .int)), .un] rfl ?_
      refine db_nx (ds_set (i := 4) (y := .list (L.map rowT7 ++ (extR n row).map rowT7)) (ρ1 := [.d (.int n), .d (.int m), .d (.list ((rowsN n (k)).map rowT7)), .d (.int (k : Nat)), .d (.list (L.map rowT7)), .d (.tuple (row.map .int)), .un]) scRNm.nd (DL.de (dl_catS (xs := L.map rowT7) (ys := (extR n row).map rowT7) (by rw [List.length_map, List.length_map]; omega) .d .d (nv 4) (DL.de (dl_is (by unfold extR; rw [List.map_map]; rfl) (dl_filtA (names n) .int (fun x => rowT7 (row ++ [x])) (fun x => decide (x ∉ row)) [("name", 6)] rfl scRNm.nd (blkOk_by (N := nRNm) (sc := defScope s_rows_of_names) (by decide +kernel)) (di_names (n := n) T.range_ (by omega) (nv 0)) (by (intro j hj; first | (cases hj with | head => rfl | tail _ h => cases h) | (cases hj with | head => rfl | tail _ h => cases h with | head => rfl | tail _ h => cases h) | (cases hj with | head => rfl | tail _ h => cases h with | head => rfl | tail _ h => cases h with | head => rfl | tail _ h => cases h))) (fun x hx => ⟨_, _, _, _, fun _ _ _ _ _ => dg_name (i := 6) scRNm.nd, fun _ _ _ _ _ => dt_is (dt_notInT (ds := row.map .int) hw5 sx_int.sh (tup_shZ _) (nv 6) (nv 5)) (by rw [any_ints, decide_not]), fun _ _ _ _ _ _ => de_is (de_tup (xs := row.map PyData.int ++ [PyData.int x]) (da_starQ .t (nv 5) (da_cons (nv 6) da_nil)) (by rw [List.length_append, List.length_map]; simp only [List.length_cons, List.length_nil]; omega)) (by unfold rowT7; rw [List.map_append]; rfl), by simp, by first | exact G.Wk.refl _ | (repeat (first | exact G.Wk.nil | apply G.Wk.cons | apply G.Wk.drop)), by first | exact G.Wk.refl _ | (repeat (first | exact G.Wk.nil | apply G.Wk.cons | apply G.Wk.drop))⟩) (by rw [names_len]; omega))))))) (by first | exact G.Wk.refl _ | (repeat (first | exact G.Wk.nil | apply G.Wk.cons | apply G.Wk.drop)))
    refine db_at [.d (.int n), .d (.int m), .d (.list ((rowsN n (k)).map rowT7)), .d (.int (k : Nat)), .d (.list ((rowsN n (k + 1)).map rowT7)), .un, .un] rfl ?_
    exact db_nx (ds_set (i := 2) (y := .list ((rowsN n (k + 1)).map rowT7)) scRNm.nd (nv 4)) (by first | exact G.Wk.refl _ | (repeat (first | exact G.Wk.nil | apply G.Wk.cons | apply G.Wk.drop)))
  exact db_rtW (ρ1 := [.d (.int n), .d (.int m), .d (.list ((rowsN n (m)).map rowT7)), .un, .un, .un, .un]) (db_one (ds_ret (nv 2))) (by first | exact G.Wk.refl _ | (repeat (first | exact G.Wk.nil | apply G.Wk.cons | apply G.Wk.drop)))
theorem ok_apt {f : Addr} {fd : FuncData} (D : Df K mg "all_patterns" s_all_patterns f fd ["many"]) (T : Bt mg) : FnG P w K mg base 1 f fd ["many"] (spP K psAP) := by
  refine fnP_of D.fn scAP (fun ds d ⟨_, _, e, _⟩ => by rw [e]; rfl) ?_
  rintro cdv A outer s H E ds d' hg hr ⟨m, m2, rfl, rfl⟩
  have hu : (A.deeper (envOfC "all_patterns" (defScope s_all_patterns) s.heap.objs.size f cdv)).units + 100 < cLine := by have := hr.un; omega
  have hw5 := Nat.lt_of_le_of_lt (Nat.add_le_add_left (by decide : 65 ≤ 100) _) hu
  have hw := Nat.lt_of_le_of_lt (Nat.add_le_add_left (by decide : 64 ≤ 100) _) hu
  have z1 : (100000 : Nat) ≤ sizeLine := by decide
  suffices h : DB _ [.d (.int m), .un, .un, .un, .un] (defBody s_all_patterns) (.rt (.list ((patsN m).map rowT7)) [.d (.int m), .un, .un, .un, .un]) from ⟨_, h⟩
  refine db_cons (ds_set (i := 1) (y := .list [.tuple []]) (ρ1 := [.d (.int m), .un, .un, .un, .un]) scAP.nd (DL.de (dl_lst (xs := [.tuple []]) (da_cons (de_tup (xs := []) da_nil) da_nil)))) ?_
  refine db_cons (ds_for PassesOwn.never rfl (di_range (n := m) T.range_ (by omega) (da_cons (nv 0) da_nil)) (fun k => [.d (.int m), .d (.list ((patsN (k)).map rowT7)), .un, .un, .un]) (Wk.refl _) (fun k z hz => ?_) (ρ2 := [.d (.int m), .d (.list ((patsN (m)).map rowT7)), .un, .un, .un]) (by rw [rangeD_len, Int.toNat_natCast])) ?_
  · obtain ⟨hk, rfl⟩ := range_get hz
    have f2 : (patsN k).length ≤ 2 := by rw [pats_few]; exact (by have : k = 0 ∨ k = 1 := by omega
                                                                  rcases this with rfl | rfl <;> decide)
    refine ⟨_, _, dg_name (i := 2) scAP.nd, ?_⟩
    refine db_at [.d (.int m), .d (.list ((patsN (k)).map rowT7)), .d (.int (k : Nat)), .un, .un] rfl ?_
    refine db_cons (ds_set (i := 3) (y := .list []) (ρ1 := [.d (.int m), .d (.list ((patsN (k)).map rowT7)), .d (.int (k : Nat)), .un, .un]) scAP.nd (DL.de (dl_lst (xs := []) da_nil))) ?_
    refine db_cons (ds_for PassesOwn.never rfl (di_list (nv 1)) (fun j => [.d (.int m), .d (.list ((patsN (k)).map rowT7)), .d (.int (k : Nat)), .d (.list ((((patsN k).take j).flatMap fun p => [p ++ [0], p ++ [1]]).map rowT7)), .un]) (Wk.refl _) (fun j y hy => ?_) (ρ2 := [.d (.int m), .d (.list ((patsN (k)).map rowT7)), .d (.int (k : Nat)), .d (.list ((patsN (k + 1)).map rowT7)), .un]) (by rw [List.length_map, List.take_length]; rfl)) ?_
    · obtain ⟨p, hrw, rfl⟩ := map_get hy
      have hm := patsN_len (List.mem_of_getElem? hrw)
      have lt : (((patsN k).take j).flatMap fun p => [p ++ [0], p ++ [1]]).length ≤ 4 := Nat.le_trans (flat_lenW (c := 2) fun x _ => Nat.le_refl _) (by rw [List.length_take]; omega)
      rw [take_flat hrw, List.map_append]
      generalize ((patsN k).take j).flatMap (fun p => [p ++ [0], p ++ [1]]) = L at lt ⊢
      refine ⟨_, _, dg_name (i := 4) scAP.nd, ?_⟩
      refine db_at [.d (.int m), .d (.list ((patsN (k)).map rowT7)), .d (.int (k : Nat)), .d (.list (L.map rowT7)), .d (.tuple (p.map .int))] rfl ?_
      exact db_nx (ds_set (i := 3) (y := .list (L.map rowT7 ++ [rowT7 (p ++ [0]), rowT7 (p ++ [1])])) (ρ1 := [.d (.int m), .d (.list ((patsN (k)).map rowT7)), .d (.int (k : Nat)), .d (.list (L.map rowT7)), .d (.tuple (p.map .int))]) scAP.nd (DL.de (dl_catS (xs := L.map rowT7) (ys := [rowT7 (p ++ [0]), rowT7 (p ++ [1])]) (by rw [List.length_map]; simp only [List.length_cons, List.length_nil]; omega) .d .d (nv 3) (DL.de (dl_lst (da_cons (de_is (de_tup (xs := p.map PyData.int ++ [PyData.int 0]) (da_starQ .t (nv 4) (da_cons de_int da_nil)) (by rw [List.length_append, List.length_map]; simp only [List.length_cons, List.length_nil]; omega)) (by unfold rowT7; rw [List.map_append]; rfl : PyData.tuple (p.map PyData.int ++ [PyData.int 0]) = rowT7 (p ++ [0]))) (da_cons (de_is (de_tup (xs := p.map PyData.int ++ [PyData.int 1]) (da_starQ .t (nv 4) (da_cons de_int da_nil)) (by rw [List.length_append, List.length_map]; simp only [List.length_cons, List.length_nil]; omega)) (by unfold rowT7; rw [List.map_append]; rfl : PyData.tuple (p.map PyData.int ++ [PyData.int 1]) = rowT7 (p ++ [1]))) da_nil))))))) (by first | exact G.Wk.refl _ | (repeat (first | exact G.Wk.nil | apply G.Wk.cons | apply G.Wk.drop)))
    refine db_at [.d (.int m), .d (.list ((patsN (k)).map rowT7)), .d (.int (k : Nat)), .d (.list ((patsN (k + 1)).map rowT7)), .un] rfl ?_
    exact db_nx (ds_set (i := 1) (y := .list ((patsN (k + 1)).map rowT7)) scAP.nd (nv 3)) (by first | exact G.Wk.refl _ | (repeat (first | exact G.Wk.nil | apply G.Wk.cons | apply G.Wk.drop)))
  exact db_rtW (ρ1 := [.d (.int m), .d (.list ((patsN (m)).map rowT7)), .un, .un, .un]) (db_one (ds_ret (nv 1))) (by first | exact G.Wk.refl _ | (repeat (first | exact G.Wk.nil | apply G.Wk.cons | apply G.Wk.drop)))
theorem ok_mw {f f1 f2 f3 f4 f5 : Addr} {fd fd1 fd2 fd3 fd4 fd5 : FuncData} (D : Df K mg "missing_wish" s_missing_wish f fd ["web", "k"]) (D1 : Df K mg "rows_of_names" s_rows_of_names f1 fd1 ["n", "many"]) (D2 : Df K mg "all_patterns" s_all_patterns f2 fd2 ["many"]) (D3 : Df K mg "is_met" s_is_met f3 fd3 ["web", "row", "pattern"]) (D4 : Df K mg "meeting_names" s_meeting_names f4 fd4 ["web", "row", "pattern"]) (D5 : Df K mg "is_met_by" s_is_met_by f5 fd5 ["web", "row", "pattern", "name"]) (T : Bt mg) : FnG P w K mg base 4 f fd ["web", "k"] (spP K psMW) := by
  have gR := ok_rnm (P := P) (w := w) (base := base) D1 T
  have gA := ok_apt (P := P) (w := w) (base := base) D2 T
  have gI := ok_im (P := P) (w := w) (base := base) D3 D4 D5 T
  refine fnP_of D.fn scMW (fun ds d ⟨_, _, _, _, e, _⟩ => by rw [e]; rfl) ?_
  rintro cdv A outer s H E ds d' hg hr ⟨W, k, n3, k3, rfl, rfl⟩
  have hu : (A.deeper (envOfC "missing_wish" (defScope s_missing_wish) s.heap.objs.size f cdv)).units + 100 < cLine := by have := hr.un; omega
  have hw5 := Nat.lt_of_le_of_lt (Nat.add_le_add_left (by decide : 65 ≤ 100) _) hu
  have hw := Nat.lt_of_le_of_lt (Nat.add_le_add_left (by decide : 64 ≤ 100) _) hu
  have z1 : (100000 : Nat) ≤ sizeLine := by decide
  suffices h : DB _ [.d (wbD W), .d (.int k), .un, .un, .un] (defBody s_missing_wish) (.rt (optW (missF W.n (adjW W) k)) [.d (wbD W), .d (.int k), .un, .un, .un]) from ⟨_, h⟩
  refine db_forO (List.range k) (fun (m : Nat) => .int (m : Nat)) (fun m => (rowsN W.n m).findSome? fun r => (patsN m).findSome? fun p => if (meetF W.n (adjW W) r p).isEmpty = true then some (wishD r p) else none) PassesOwn.never rfl (di_is ?_ (di_range (n := k) T.range_ (by omega) (da_cons (nv 1) da_nil))) (fun m hm => ?_) (fun h => ?_) (fun d h => ?_)
  · unfold rangeD
    rw [Int.toNat_natCast]
    refine List.map_congr_left fun x _ => ?_
    rw [Int.zero_add]
  · have m2 := List.mem_range.mp hm
    refine ⟨_, _, dg_name (i := 2) scMW.nd, ?_⟩
    have mid : ∀ o : O, ((rowsN W.n m).findSome? (fun r => (patsN m).findSome? (fun p => if (meetF W.n (adjW W) r p).isEmpty = true then some (wishD r p) else none)) = none → o = .nx [.d (wbD W), .d (.int k), .d (.int (m : Nat)), .un, .un]) → (∀ d, (rowsN W.n m).findSome? (fun r => (patsN m).findSome? (fun p => if (meetF W.n (adjW W) r p).isEmpty = true then some (wishD r p) else none)) = some d → o = .rt d [.d (wbD W), .d (.int k), .d (.int (m : Nat)), .un, .un]) → DB (cxOf L2.CX0 P w K mg base nMW "missing_wish" (defScope s_missing_wish) f cdv A outer s H E).nox [.d (wbD W), .d (.int k), .d (.int (m : Nat)), .un, .un] (bodyF (nthS (defBody s_missing_wish) 0)) o := by
      intro o ho1 ho2
      refine db_forO (rowsN W.n m) rowT7 (fun r => (patsN m).findSome? (fun p => if (meetF W.n (adjW W) r p).isEmpty = true then some (wishD r p) else none)) PassesOwn.never rfl (di_list (de_callP gR hg (hr.mono (by omega)) D1.mg D1.kp D1.bd (ds := [.int W.n, .int (m : Nat)]) (d := .list ((rowsN W.n m).map rowT7)) ⟨W.n, m, n3, by omega, rfl, rfl⟩ (da_cons (de_w0 (W := W) (nv 0)) (da_cons (nv 2) da_nil)))) (fun r hrm => ?_) (fun h => by rw [ho1 h]; exact db_nil) (fun d h => ho2 d h)
      have hri := rowsN_in hrm
      refine ⟨_, _, dg_name (i := 3) scMW.nd, ?_⟩
      have inn : ∀ o : O, ((patsN m).findSome? (fun p => if (meetF W.n (adjW W) r p).isEmpty = true then some (wishD r p) else none) = none → o = .nx [.d (wbD W), .d (.int k), .d (.int (m : Nat)), .d (.tuple (r.map .int)), .un]) → (∀ d, (patsN m).findSome? (fun p => if (meetF W.n (adjW W) r p).isEmpty = true then some (wishD r p) else none) = some d → o = .rt d [.d (wbD W), .d (.int k), .d (.int (m : Nat)), .d (.tuple (r.map .int)), .un]) → DB (cxOf L2.CX0 P w K mg base nMW "missing_wish" (defScope s_missing_wish) f cdv A outer s H E).nox [.d (wbD W), .d (.int k), .d (.int (m : Nat)), .d (.tuple (r.map .int)), .un] (bodyF (nthS (bodyF (nthS (defBody s_missing_wish) 0)) 0)) o := by
        intro o ho1 ho2
        refine db_forO (patsN m) rowT7 (fun p => if (meetF W.n (adjW W) r p).isEmpty = true then some (wishD r p) else none) PassesOwn.never rfl (di_list (de_callP gA hg (hr.mono (by omega)) D2.mg D2.kp D2.bd (ds := [.int (m : Nat)]) (d := .list ((patsN m).map rowT7)) ⟨m, by omega, rfl, rfl⟩ (da_cons (nv 2) da_nil))) (fun p hp => ?_) (fun h => by rw [ho1 h]; exact db_nil) (fun d h => ho2 d h)
        have lrp : r.length = p.length := by rw [hri.1, patsN_len hp]
        have lr := hri.1
        refine ⟨_, _, dg_name (i := 4) scMW.nd, fun h => ?_, fun d h => ?_⟩
        · have he : (meetF W.n (adjW W) r p).isEmpty = false := by
            cases q : (meetF W.n (adjW W) r p).isEmpty with
            | false => rfl
            | true => rw [q, if_pos rfl] at h; cases h
          exact db_ifF (ρ1 := [.d (wbD W), .d (.int k), .d (.int (m : Nat)), .d (.tuple (r.map .int)), .d (.tuple (p.map .int))]) (dt_is (dt_not (dt_val (de_callP gI hg (hr.mono (by omega)) D3.mg D3.kp D3.bd (ds := [wbD W, .tuple (r.map .int), .tuple (p.map .int)]) (d := .bool (!(meetF W.n (adjW W) r p).isEmpty)) ⟨W, r, p, by omega, lrp, by omega, rfl, rfl⟩ (da_cons (nv 0) (da_cons (nv 3) (da_cons (nv 4) da_nil)))))) (by rw [he]; rfl)) (db_end (by first | exact G.Wk.refl _ | (repeat (first | exact G.Wk.nil | apply G.Wk.cons | apply G.Wk.drop))))
        · have he : (meetF W.n (adjW W) r p).isEmpty = true := by
            cases q : (meetF W.n (adjW W) r p).isEmpty with
            | true => rfl
            | false => rw [q] at h; cases h
          rw [he, if_pos rfl] at h
          cases h
          exact db_rtW (db_ifT (ρ1 := [.d (wbD W), .d (.int k), .d (.int (m : Nat)), .d (.tuple (r.map .int)), .d (.tuple (p.map .int))]) (dt_is (dt_not (dt_val (de_callP gI hg (hr.mono (by omega)) D3.mg D3.kp D3.bd (ds := [wbD W, .tuple (r.map .int), .tuple (p.map .int)]) (d := .bool (!(meetF W.n (adjW W) r p).isEmpty)) ⟨W, r, p, by omega, lrp, by omega, rfl, rfl⟩ (da_cons (nv 0) (da_cons (nv 3) (da_cons (nv 4) da_nil)))))) (by rw [he]; rfl)) (db_one (ds_ret (de_tup (da_cons (nv 3) (da_cons (nv 4) da_nil)))))) (by first | exact G.Wk.refl _ | (repeat (first | exact G.Wk.nil | apply G.Wk.cons | apply G.Wk.drop)))
      exact ⟨fun h => db_weak (inn (.nx [.d (wbD W), .d (.int k), .d (.int (m : Nat)), .d (.tuple (r.map .int)), .un]) (fun _ => rfl) (fun d hd => by rw [show (patsN m).findSome? (fun p => if (meetF W.n (adjW W) r p).isEmpty = true then some (wishD r p) else none) = none from h] at hd; cases hd)) (by first | exact G.Wk.refl _ | (repeat (first | exact G.Wk.nil | apply G.Wk.cons | apply G.Wk.drop))), fun d h => db_rtW (inn (.rt d [.d (wbD W), .d (.int k), .d (.int (m : Nat)), .d (.tuple (r.map .int)), .un]) (fun hn => by rw [show (patsN m).findSome? (fun p => if (meetF W.n (adjW W) r p).isEmpty = true then some (wishD r p) else none) = some d from h] at hn; cases hn) (fun d' hd => by rw [show (patsN m).findSome? (fun p => if (meetF W.n (adjW W) r p).isEmpty = true then some (wishD r p) else none) = some d from h] at hd; cases hd; rfl)) (by first | exact G.Wk.refl _ | (repeat (first | exact G.Wk.nil | apply G.Wk.cons | apply G.Wk.drop)))⟩
    exact ⟨fun h => db_weak (mid (.nx [.d (wbD W), .d (.int k), .d (.int (m : Nat)), .un, .un]) (fun _ => rfl) (fun d hd => by rw [show (rowsN W.n m).findSome? (fun r => (patsN m).findSome? (fun p => if (meetF W.n (adjW W) r p).isEmpty = true then some (wishD r p) else none)) = none from h] at hd; cases hd)) (by first | exact G.Wk.refl _ | (repeat (first | exact G.Wk.nil | apply G.Wk.cons | apply G.Wk.drop))), fun d h => db_rtW (mid (.rt d [.d (wbD W), .d (.int k), .d (.int (m : Nat)), .un, .un]) (fun hn => by rw [show (rowsN W.n m).findSome? (fun r => (patsN m).findSome? (fun p => if (meetF W.n (adjW W) r p).isEmpty = true then some (wishD r p) else none)) = some d from h] at hn; cases hn) (fun d' hd => by rw [show (rowsN W.n m).findSome? (fun r => (patsN m).findSome? (fun p => if (meetF W.n (adjW W) r p).isEmpty = true then some (wishD r p) else none)) = some d from h] at hd; cases hd; rfl)) (by first | exact G.Wk.refl _ | (repeat (first | exact G.Wk.nil | apply G.Wk.cons | apply G.Wk.drop)))⟩
  · unfold optW missF
    rw [h]
    exact db_one (ds_ret de_non)
  · unfold optW missF
    rw [h]; rfl
end
end G

set_option Elab.async false
set_option linter.all false
set_option maxRecDepth 100000
set_option maxHeartbeats 4000000
/- web_of_ties, walked -/
namespace G
open PySem L2 PySem.Spec PyProof.Rows
abbrev nWT : List Str := ["n", "ties", "arrows", "a", "b"]
theorem scWT : FnScope nWT ["n", "ties"] (defScope s_web_of_ties) := ⟨rfl, rfl, rfl, by decide +kernel, rfl, by decide +kernel, by decide +kernel⟩
section
variable {P : Program} {w : World} {K : PySem.W.Frag} {mg : Str → Option Value} {base : Heap}
theorem ok_wt {f : Addr} {fd : FuncData} (D : Df K mg "web_of_ties" s_web_of_ties f fd ["n", "ties"]) (T : Bt mg) : FnG P w K mg base 1 f fd ["n", "ties"] (spP K psWT) := by
  refine fnP_of D.fn scWT (fun ds d ⟨_, _, _, _, _, e, _⟩ => by rw [e]; rfl) ?_
  rintro cdv A outer s H E ds d' hg hr ⟨n, l, n1, n2, hl, rfl, rfl⟩
  have hu : (A.deeper (envOfC "web_of_ties" (defScope s_web_of_ties) s.heap.objs.size f cdv)).units + 100 < cLine := by have := hr.un; omega
  have hw5 := Nat.lt_of_le_of_lt (Nat.add_le_add_left (by decide : 65 ≤ 100) _) hu
  have hw := Nat.lt_of_le_of_lt (Nat.add_le_add_left (by decide : 64 ≤ 100) _) hu
  have z1 : (100000 : Nat) ≤ sizeLine := by decide
  have lpD : (pD l).length = l.length := pD_len l
  suffices h : DB _ [.d (.int n), .d (.list (pD l)), .un, .un, .un] (defBody s_web_of_ties) (.rt (wbD (tiW n l)) [.d (.int n), .d (.list (pD l)), .un, .un, .un]) from ⟨_, h⟩
  refine db_cons (ds_set (i := 2) (y := .list []) (ρ1 := [.d (.int n), .d (.list (pD l)), .un, .un, .un]) scWT.nd (DL.de (dl_lst (xs := []) da_nil))) ?_
  refine db_cons (ds_for PassesOwn.never rfl (di_list (xs := l.map prD) (de_is (nv 1) (by rw [eqv_pD]))) (fun k => [.d (.int n), .d (.list (pD l)), .d (.list (pD (both2 (l.take k)))), .un, .un]) (Wk.refl _) (fun k z hz => ?_) (ρ2 := [.d (.int n), .d (.list (pD l)), .d (.list (pD (both2 (l)))), .un, .un]) (by rw [List.length_map, List.take_length])) ?_
  · rw [List.getElem?_map] at hz
    cases e : l[k]? with
    | none => rw [e] at hz; cases hz
    | some q =>
      rw [e] at hz
      cases hz
      have lk : (pD (both2 (l.take k))).length ≤ 2000 := by
        rw [pD_len, both_len, List.length_take]; omega
      refine ⟨_, _, (dg_tup rfl (dgs_cons (dg_name (i := 3) scWT.nd) (dgs_cons (dg_name (i := 4) scWT.nd) dgs_nil))), ?_⟩
      refine db_at [.d (.int n), .d (.list (pD l)), .d (.list (pD (both2 (l.take k)))), .d (.int q.1), .d (.int q.2)] rfl ?_
      rw [both_take e, pD_app]
      exact db_nx (ds_set (i := 2) (y := .list (pD (both2 (l.take k)) ++ pD [q, swpT q])) (ρ1 := [.d (.int n), .d (.list (pD l)), .d (.list (pD (both2 (l.take k)))), .d (.int q.1), .d (.int q.2)]) scWT.nd (DL.de (dl_catS (xs := pD (both2 (l.take k))) (ys := pD [q, swpT q]) (Nat.le_trans (Nat.add_le_add_right lk _) (Nat.le_of_ble_eq_true rfl)) .d .d (nv 2) (DL.de (dl_lst (da_cons (de_tup (da_cons (nv 3) (da_cons (nv 4) da_nil))) (da_cons (de_tup (da_cons (nv 4) (da_cons (nv 3) da_nil))) da_nil))))))) (by first | exact G.Wk.refl _ | (repeat (first | exact G.Wk.nil | apply G.Wk.cons | apply G.Wk.drop)))
  refine db_rtW (ρ1 := [.d (.int n), .d (.list (pD l)), .d (.list (pD (both2 (l)))), .un, .un]) (db_one (ds_ret (de_is (de_tup (da_cons (nv 0) (da_cons (de_is (de_repA (xs := [.int 0]) (k := (n : Int)) (by omega) (by omega) (by simp) (by simp) (de_tup (da_cons de_int da_nil)) (nv 0)) (by rw [Int.toNat_natCast, zeros_eq])) (da_cons (de_sortP (l := both2 l) hu .d T.tuple_ T.sorted_ (nv 2)) da_nil)))) (by rw [srt_both]; rfl)))) (by first | exact G.Wk.refl _ | (repeat (first | exact G.Wk.nil | apply G.Wk.cons | apply G.Wk.drop)))
end
end G

set_option Elab.async false
set_option linter.all false
set_option maxRecDepth 100000
set_option maxHeartbeats 4000000
/- Paley webs, walked -/
namespace G
open PySem L2 PySem.Spec PyProof.Rows
abbrev nPW : List Str := ["q", "squares", "ties", "a", "x", "b"]
theorem scPW : FnScope nPW ["q"] (defScope s_paley_web) := ⟨rfl, rfl, rfl, by decide +kernel, rfl, by decide +kernel, by decide +kernel⟩
section
variable {P : Program} {w : World} {K : PySem.W.Frag} {mg : Str → Option Value} {base : Heap}
theorem ok_pw {f f1 : Addr} {fd fd1 : FuncData} (D : Df K mg "paley_web" s_paley_web f fd ["q"]) (D1 : Df K mg "web_of_ties" s_web_of_ties f1 fd1 ["n", "ties"]) (T : Bt mg) : FnG P w K mg base 2 f fd ["q"] (spP K psPW) := by
  have gW := ok_wt (P := P) (w := w) (base := base) D1 T
  refine fnP_of D.fn scPW (fun ds d ⟨_, _, _, e, _⟩ => by rw [e]; rfl) ?_
  rintro cdv A outer s H E ds d' hg hr ⟨q, q1, q2, rfl, rfl⟩
  have hu : (A.deeper (envOfC "paley_web" (defScope s_paley_web) s.heap.objs.size f cdv)).units + 100 < cLine := by have := hr.un; omega
  have hw5 := Nat.lt_of_le_of_lt (Nat.add_le_add_left (by decide : 65 ≤ 100) _) hu
  have hw := Nat.lt_of_le_of_lt (Nat.add_le_add_left (by decide : 64 ≤ 100) _) hu
  have z1 : (100000 : Nat) ≤ sizeLine := by decide
  suffices h : DB _ [.d (.int q), .un, .un, .un, .un, .un] (defBody s_paley_web) (.rt (wbD (palW q)) [.d (.int q), .un, .un, .un, .un, .un]) from ⟨_, h⟩
  have ul := upN_len q 0
  refine db_cons (ds_setF (i := 1) (ρ1 := [.d (.int q), .un, .un, .un, .un, .un]) scPW.nd (df_dcK (upN q 0) .int (fun x => .inl (x * x % (q : Int))) (fun _ => .bool true) (fun _ => true) [("x", 4)] rfl scPW.nd (blkOk_by (N := nPW) (sc := defScope s_paley_web) (by decide +kernel)) (di_is (upN_D q (by omega)) (di_range2 (m := (0 : Int) + 1) (n := q) T.range_ (by omega) (da_cons de_int (da_cons (nv 0) da_nil)))) (by (intro j hj; first | (cases hj with | head => rfl | tail _ h => cases h) | (cases hj with | head => rfl | tail _ h => cases h with | head => rfl | tail _ h => cases h) | (cases hj with | head => rfl | tail _ h => cases h with | head => rfl | tail _ h => cases h with | head => rfl | tail _ h => cases h))) (fun x hx => ?_) (by omega))) ?_
  · have := upN_in (by omega) hx
    exact ⟨_, _, _, _, _, fun _ _ _ _ _ => dg_name (i := 4) scPW.nd, fun _ _ _ _ _ => dts_nil, fun _ _ _ _ _ _ => de_mod (by omega) (de_mul (.inl (by omega)) (nv 4) (nv 4)) (nv 0), fun _ _ _ _ _ _ => de_bl, by simp, by first | exact G.Wk.refl _ | (repeat (first | exact G.Wk.nil | apply G.Wk.cons | apply G.Wk.drop)), by first | exact G.Wk.refl _ | (repeat (first | exact G.Wk.nil | apply G.Wk.cons | apply G.Wk.drop))⟩
  refine db_at [.d (.int q), .o (.dk (putAllD [] (((upN q 0).filter fun _ => true).map fun x => ((Sum.inl (x * x % (q : Int)) : Key), PyData.bool true)))), .un, .un, .un, .un] rfl ?_
  refine db_cons (ds_set (i := 2) (y := .list []) (ρ1 := [.d (.int q), .o (.dk (putAllD [] (((upN q 0).filter fun _ => true).map fun x => ((Sum.inl (x * x % (q : Int)) : Key), PyData.bool true)))), .un, .un, .un, .un]) scPW.nd (DL.de (dl_lst (xs := []) da_nil))) ?_
  refine db_cons (ds_for PassesOwn.never rfl (di_names (n := q) T.range_ (by omega) (nv 0)) (fun k => [.d (.int q), .o (.dk (putAllD [] (((upN q 0).filter fun _ => true).map fun x => ((Sum.inl (x * x % (q : Int)) : Key), PyData.bool true)))), .d (.list (pD (((names q).take k).flatMap (palR q)))), .un, .un, .un]) (Wk.refl _) (fun k z hz => ?_) (ρ2 := [.d (.int q), .o (.dk (putAllD [] (((upN q 0).filter fun _ => true).map fun x => ((Sum.inl (x * x % (q : Int)) : Key), PyData.bool true)))), .d (.list (pD (palT q))), .un, .un, .un]) (by rw [List.length_map, List.take_length]; rfl)) ?_
  · rw [← names_D] at hz
    obtain ⟨hk, rfl⟩ := range_get hz
    have lk : (pD (((names q).take k).flatMap (palR q))).length ≤ 1000 := by
      rw [pD_len]
      exact Nat.le_trans (pal_len q k) (Nat.le_trans (Nat.mul_le_mul (show k ≤ 29 by omega) q2) (by decide))
    rw [pal_take hk, pD_app]
    refine ⟨_, _, dg_name (i := 3) scPW.nd, ?_⟩
    refine db_at [.d (.int q), .o (.dk (putAllD [] (((upN q 0).filter fun _ => true).map fun x => ((Sum.inl (x * x % (q : Int)) : Key), PyData.bool true)))), .d (.list (pD (((names q).take k).flatMap (palR q)))), .d (.int (k : Nat)), .un, .un] rfl ?_
    have rl : (pD (palR q k)).length ≤ 100 := by rw [pD_len]; exact Nat.le_trans (palR_len q k (by omega)) (by omega)
    have ul := upN_len q (k : Int)
    refine db_nx (ds_set (i := 2) (y := .list (pD (((names q).take k).flatMap (palR q)) ++ pD (palR q k))) (ρ1 := [.d (.int q), .o (.dk (putAllD [] (((upN q 0).filter fun _ => true).map fun x => ((Sum.inl (x * x % (q : Int)) : Key), PyData.bool true)))), .d (.list (pD (((names q).take k).flatMap (palR q)))), .d (.int (k : Nat)), .un, .un]) scPW.nd (DL.de (dl_catS (xs := pD (((names q).take k).flatMap (palR q))) (ys := pD (palR q k)) (Nat.le_trans (Nat.add_le_add lk rl) (Nat.le_of_ble_eq_true rfl)) .d .d (nv 2) (DL.de (dl_is (palR_D q k).symm (dl_filtA (upN q (k : Int)) .int (fun b => prD ((k : Int), b)) (fun b => sqB q (b - (k : Int))) [("b", 5)] rfl scPW.nd (blkOk_by (N := nPW) (sc := defScope s_paley_web) (by decide +kernel)) (di_is (upN_D q (by omega)) (di_range2 (m := (k : Int) + 1) (n := q) T.range_ (by omega) (da_cons (de_add (nv 3) de_int) (da_cons (nv 0) da_nil)))) (by (intro j hj; first | (cases hj with | head => rfl | tail _ h => cases h) | (cases hj with | head => rfl | tail _ h => cases h with | head => rfl | tail _ h => cases h) | (cases hj with | head => rfl | tail _ h => cases h with | head => rfl | tail _ h => cases h with | head => rfl | tail _ h => cases h))) (fun b hb => ⟨_, _, _, _, fun _ _ _ _ _ => dg_name (i := 5) scPW.nd, fun _ _ _ _ _ => dt_is (dt_din hu (k := .inl ((b - (k : Int)) % (q : Int))) (.o rfl) (show DE _ _ _ (.d (.int ((b - (k : Int)) % (q : Int)))) _ from de_mod (by omega) (de_sub (nv 5) (nv 3)) (nv 0)) (ow 1)) (by rw [List.filter_eq_self.mpr (fun _ _ => rfl)]; exact lkD_keys (upN q 0) (fun x => x * x % (q : Int)) _ _), fun _ _ _ _ _ _ => (de_tup (da_cons (nv 3) (da_cons (nv 5) da_nil))), by simp, by first | exact G.Wk.refl _ | (repeat (first | exact G.Wk.nil | apply G.Wk.cons | apply G.Wk.drop)), by first | exact G.Wk.refl _ | (repeat (first | exact G.Wk.nil | apply G.Wk.cons | apply G.Wk.drop))⟩) (by omega))))))) (by first | exact G.Wk.refl _ | (repeat (first | exact G.Wk.nil | apply G.Wk.cons | apply G.Wk.drop)))
  have lT : (palT q).length ≤ 1000 := by
    have := pal_len q q
    rw [List.take_of_length_le (by rw [names_len]; exact Nat.le_refl _)] at this
    exact Nat.le_trans this (Nat.le_trans (Nat.mul_le_mul q2 q2) (by decide))
  exact db_rtW (ρ1 := [.d (.int q), .o (.dk (putAllD [] (((upN q 0).filter fun _ => true).map fun x => ((Sum.inl (x * x % (q : Int)) : Key), PyData.bool true)))), .d (.list (pD (palT q))), .un, .un, .un]) (db_one (ds_ret (de_callP gW hg (hr.mono (by omega)) D1.mg D1.kp D1.bd (ds := [.int q, .list (pD (palT q))]) (d := wbD (palW q)) ⟨q, palT q, q1, by omega, lT, rfl, rfl⟩ (da_cons (nv 0) (da_cons (nv 2) da_nil))))) (by first | exact G.Wk.refl _ | (repeat (first | exact G.Wk.nil | apply G.Wk.cons | apply G.Wk.drop)))
end
end G

set_option Elab.async false
set_option linter.all false
set_option maxRecDepth 100000
set_option maxHeartbeats 4000000
/- the source of draws, walked -/
namespace G
open PySem L2 PySem.Spec PyProof.Rows
/-! ### what they are -/
def mix : Int → List Int → Int
  | m, [] => m
  | m, c :: cs => mix ((m * 69069 + c * 31 + 5) % 2147483629) cs
def srcOf (ns : List Int) : Src := ⟨(ns.map fun c => (if c < 0 then -c else c)).reverse, 1, mix 11 ns, 0⟩
def drawR (left : Int) : List Int → Int × List Int
  | [] => (left, [])
  | c :: cs => if left < 2 then drawR c cs else (left, c :: cs)
def drawn (st : Src) : Src := { st with left := (drawR st.left st.cells.reverse).1, cells := (drawR st.left st.cells.reverse).2.reverse }
def pick (st : Src) (many : Int) : Int × Src :=
  let s := if 1 < many then drawn st else st
  if many < 2 ∨ 1 < s.left then (s.left % max 1 many, { s with left := s.left / max 1 many })
  else
    let t := s.turn + 1
    let m1 := (s.mixed + t * 104729) % 998244353
    let m2 := (m1 * m1 + t * 17) % 2147483647
    ((m2 / 16) % many, { s with turn := t, mixed := m2 })
theorem pick_in (st : Src) {many : Int} (h : 1 ≤ many) : 0 ≤ (pick st many).1 ∧ (pick st many).1 < many := by
  unfold pick
  dsimp only
  generalize (if 1 < many then drawn st else st) = s
  split
  · have e : max 1 many = many := by omega
    rw [e]
    exact ⟨Int.emod_nonneg _ (by omega), Int.emod_lt_of_pos _ (by omega)⟩
  · exact ⟨Int.emod_nonneg _ (by omega), Int.emod_lt_of_pos _ (by omega)⟩
theorem mix_snoc : ∀ (m : Int) (cs : List Int) (c : Int), mix m (cs ++ [c]) = (mix m cs * 69069 + c * 31 + 5) % 2147483629
  | _, [], _ => rfl
  | m, d :: cs, c => mix_snoc _ cs c
def absD : PyData → PyData
  | .int c => .int (if c < 0 then -c else c)
  | x => x
def psPick (st : Src) (ds : List PyData) (d : PyData) (st' : Src) : Prop := ∃ many : Int, 1 ≤ many ∧ many < 1000000 ∧ ds = [.int many] ∧ d = .int (pick st many).1 ∧ st' = (pick st many).2
def psSrc (ds : List PyData) (st : Src) : Prop := ∃ ns : List Int, ns.length ≤ 63 ∧ ds = [.list (ns.map .int)] ∧ st = srcOf ns
abbrev nSrc : List Str := ["script", "mixed", "cell"]
theorem scSrc : FnScope nSrc ["script"] (defScope sSrc) := ⟨rfl, rfl, rfl, by decide +kernel, rfl, by decide +kernel, by decide +kernel⟩
abbrev nPick : List Str := ["source", "many", "left", "mixed"]
theorem scPick : FnScope nPick ["source", "many"] (defScope sPick) := ⟨rfl, rfl, rfl, by decide +kernel, rfl, by decide +kernel, by decide +kernel⟩
section
variable {P : Program} {w : World} {K : PySem.W.Frag} {mg : Str → Option Value} {base : Heap}
theorem ok_src {f : Addr} {fd : FuncData} (D : Df K mg "_law_source" sSrc f fd ["script"]) (T : Bt mg) : FnG P w K mg base 1 f fd ["script"] (spN K psSrc) := by
  refine fnN_of D.fn scSrc (fun ds d ⟨_, _, e, _⟩ => by rw [e]; rfl) ?_
  rintro cdv A outer s H E ds d hg hr ⟨ns, hl, rfl, rfl⟩
  refine dbs_cons (ds_set (i := 1) scSrc.nd de_int) ?_
  refine dbs_cons (ds_for PassesOwn.never rfl (di_list (nv 0)) (fun i => [.d (.list (ns.map .int)), .d (.int (mix 11 (ns.take i))), .un]) (Wk.refl _) (fun i x hx => ?_) (ρ2 := [.d (.list (ns.map .int)), .d (.int (mix 11 ns)), .un]) (by rw [List.length_map, List.take_length])) ?_
  · obtain ⟨c, hc, rfl⟩ : ∃ c, ns[i]? = some c ∧ x = .int c := by
      rw [List.getElem?_map] at hx
      cases e : ns[i]? with
      | none => rw [e] at hx; cases hx
      | some c => rw [e] at hx; exact ⟨c, rfl, (Option.some.inj hx).symm⟩
    have em : mix 11 (ns.take (i + 1)) = (mix 11 (ns.take i) * 69069 + c * 31 + 5) % 2147483629 := by
      rw [List.take_add_one, hc]
      exact mix_snoc _ _ _
    refine ⟨_, _, dg_name (i := 2) scSrc.nd, db_nx (ds_set (i := 1) scSrc.nd (de_mod (by decide) (de_intI T.int_ (de_add (de_add (de_mul (.inr (by decide)) (nv 1) de_int) (de_mul (.inr (by decide)) (nv 2) de_int)) de_int)) de_int)) ?_⟩
    rw [em]
    first | exact G.Wk.refl _ | (repeat (first | exact G.Wk.nil | apply G.Wk.cons | apply G.Wk.drop))
  · refine dbs_ret (dsrc_disp (st := srcOf ns) (ρ1 := [.d (.list (ns.map .int)), .d (.int (mix 11 ns)), .un]) ?_ de_int (nv 1) de_int)
    have e : (srcOf ns).cells.map PyData.int = ((ns.map PyData.int).map absD).reverse := by
      show ((ns.map fun c => (if c < 0 then -c else c)).reverse).map PyData.int = _
      rw [List.map_reverse, List.map_map, List.map_map]
      rfl
    rw [e]
    refine dl_rev .d (dl_map [("cell", 2)] absD rfl scSrc.nd (blkOk_by (N := nSrc) (sc := defScope sSrc) (by decide +kernel)) (di_list (nv 0)) (by intro j hj; cases hj with | head => rfl | tail _ h => cases h) (fun x hx => ?_) ?_).de
    · obtain ⟨c, _, rfl⟩ := List.mem_map.mp hx
      exact ⟨_, _, _, fun _ _ _ _ _ => dg_name (i := 2) scSrc.nd, fun _ _ _ _ _ => de_abs T.abs_ (nv 2), by simp, by first | exact G.Wk.refl _ | (repeat (first | exact G.Wk.nil | apply G.Wk.cons | apply G.Wk.drop))⟩
    · rw [List.length_map]
      exact Nat.le_trans hl (by decide)
theorem ok_pick {f : Addr} {fd : FuncData} (D : Df K mg "_law_pick" sPick f fd ["source", "many"]) (T : Bt mg) : FnG P w K mg base 1 f fd ["source", "many"] (spS K psPick) := by
  refine fnS_of D.fn scPick (fun st ds d st' ⟨_, _, _, e, _⟩ => by rw [e]; rfl) ?_
  rintro cdv A outer s H E a st ds d st' hg hr ⟨many, hm1, hm2, rfl, rfl, rfl⟩
  have hu : (A.deeper (envOfC "_law_pick" (defScope sPick) s.heap.objs.size f cdv)).units + 100 < cLine := by have := hr.un; omega
  have eM : max (1 : Int) many = many := by omega
  have eX : PyData.int (if many > 1 then many else 1) = .int (max 1 many) := by
    congr 1
    split <;> omega
  have loop : ∃ s1, s1 = (if 1 < many then drawn st else st) ∧ ∀ (rest : List Stmt) (o : O), DB (cxOf CX0 P w K mg base nPick "_law_pick" (defScope sPick) f cdv A outer s H E).nox [.o (.src a s1), .d (.int many), .un, .un] ((defBody sPick).tail) o →
      DB (cxOf CX0 P w K mg base nPick "_law_pick" (defScope sPick) f cdv A outer s H E).nox [.o (.src a st), .d (.int many), .un, .un] (defBody sPick) o := by
    refine ⟨_, rfl, fun rest o h => db_cons (ds_while PassesOwn.never ?_) h⟩
    clear h
    by_cases h1 : 1 < many
    · rw [if_pos h1]
      obtain ⟨cells, left, mixed, turn⟩ := st
      obtain ⟨rev, rfl⟩ : ∃ rev, cells = rev.reverse := ⟨cells.reverse, by simp⟩
      unfold drawn
      simp only [List.reverse_reverse]
      induction rev generalizing left with
      | nil =>
        refine .stop (dt_is (dw_and (dt_gt (nv 1) de_int) (fun _ => dw_and (dt_lt (de_srcGet hu (fun _ => src_left) (ow 0)) de_int) (fun _ => dw_and1 (dt_gt (de_srcLen hu T.len_ (ow 0)) de_int)) (fun _ => rfl)) (fun _ => rfl)).dt ?_)
        simp
      | cons c rev ih =>
        by_cases hl : left < 2
        · refine .step (ρ2 := [.o (.src a ⟨rev.reverse, c, mixed, turn⟩), .d (.int many), .un, .un]) (dt_is (dw_and (dt_gt (nv 1) de_int) (fun _ => dw_and (dt_lt (de_srcGet hu (fun _ => src_left) (ow 0)) de_int) (fun _ => dw_and1 (dt_gt (de_srcLen hu T.len_ (ow 0)) de_int)) (fun _ => rfl)) (fun _ => rfl)).dt ?_)
            (.inl (db_one (ds_srcPop (i := 0) (st := ⟨(c :: rev).reverse, left, mixed, turn⟩) (cs := rev.reverse) (n := c) hu (by rw [List.reverse_cons]) (ow 0) (ow 0)))) (by first | exact G.Wk.refl _ | (repeat (first | exact G.Wk.nil | apply G.Wk.cons | apply G.Wk.drop))) ?_
          · simp [h1, hl]
          · have := ih c
            unfold drawR
            rw [if_pos hl]
            exact this
        · unfold drawR
          rw [if_neg hl]
          refine .stop (dt_is (dw_and (dt_gt (nv 1) de_int) (fun _ => dw_and (dt_lt (de_srcGet hu (fun _ => src_left) (ow 0)) de_int) (fun _ => dw_and1 (dt_gt (de_srcLen hu T.len_ (ow 0)) de_int)) (fun _ => rfl)) (fun _ => rfl)).dt ?_)
          simp [hl]
    · rw [if_neg h1]
      refine .stop (dt_is (dw_and (dt_gt (nv 1) de_int) (fun _ => dw_and (dt_lt (de_srcGet hu (fun _ => src_left) (ow 0)) de_int) (fun _ => dw_and1 (dt_gt (de_srcLen hu T.len_ (ow 0)) de_int)) (fun _ => rfl)) (fun _ => rfl)).dt ?_)
      simp [h1]
  obtain ⟨s1, e1, loop⟩ := loop
  have ep : pick st many = if many < 2 ∨ 1 < s1.left then (s1.left % max 1 many, { s1 with left := s1.left / max 1 many })
      else ((((s1.mixed + (s1.turn + 1) * 104729) % 998244353 * ((s1.mixed + (s1.turn + 1) * 104729) % 998244353) + (s1.turn + 1) * 17) % 2147483647 / 16) % many,
        { s1 with turn := s1.turn + 1, mixed := ((s1.mixed + (s1.turn + 1) * 104729) % 998244353 * ((s1.mixed + (s1.turn + 1) * 104729) % 998244353) + (s1.turn + 1) * 17) % 2147483647 }) := by
    rw [e1]; rfl
  rw [ep]
  by_cases hc : many < 2 ∨ 1 < s1.left
  · rw [if_pos hc]
    refine ⟨[.o (.src a { s1 with left := s1.left / max 1 many }), .d (.int many), .d (.int s1.left), .un], rfl, loop [] _ ?_⟩
    refine db_cons (ds_set (i := 2) scPick.nd (de_srcGet hu (fun _ => src_left) (ow 0))) ?_
    refine db_ifT (dt_is (dw_or (dt_lt (nv 1) de_int) (fun _ => dw_or1 (dt_gt (nv 2) de_int)) (fun _ => rfl)).dt ?_) ?_
    · simpa using hc
    · refine db_cons (ds_srcSet (i := 0) (st' := { s1 with left := s1.left / max 1 many }) hu (fun _ => put_left) rfl (de_fdiv (by rw [eM]; exact ⟨by omega, by omega⟩) (nv 2) (de_is (de_max2 (i := 1) (j := many) rfl T.max_ (da_cons de_int (da_cons (nv 1) da_nil))) eX)) (ow 0)) ?_
      exact db_one (ds_ret (de_mod (by omega) (de_intI T.int_ (nv 2)) (de_is (de_max2 (i := 1) (j := many) rfl T.max_ (da_cons de_int (da_cons (nv 1) da_nil))) eX)))
  · rw [if_neg hc]
    generalize hm : (s1.mixed + (s1.turn + 1) * 104729) % 998244353 = m1
    generalize hm' : (m1 * m1 + (s1.turn + 1) * 17) % 2147483647 = m2
    have m1b : 0 ≤ m1 ∧ m1 < 998244353 := by rw [← hm]; exact ⟨Int.emod_nonneg _ (by decide), Int.emod_lt_of_pos _ (by decide)⟩
    refine ⟨[.o (.src a { s1 with turn := s1.turn + 1, mixed := m2 }), .d (.int many), .d (.int s1.left), .d (.int m2)], rfl, loop [] _ ?_⟩
    refine db_cons (ds_set (i := 2) scPick.nd (de_srcGet hu (fun _ => src_left) (ow 0))) ?_
    refine db_ifF (dt_is (dw_or (dt_lt (nv 1) de_int) (fun _ => dw_or1 (dt_gt (nv 2) de_int)) (fun _ => rfl)).dt ?_) ?_
    · simpa using hc
    refine db_cons (ds_srcSet (i := 0) (st' := { s1 with turn := s1.turn + 1 }) hu (fun _ => put_turn) rfl (de_add (de_srcGet hu (fun _ => src_turn) (ow 0)) de_int) (ow 0)) ?_
    refine db_at [.o (.src a { s1 with turn := s1.turn + 1 }), .d (.int many), .d (.int s1.left), .un] rfl ?_
    refine db_cons (ds_set (i := 3) (y := .int m1) scPick.nd (de_is (de_mod (by decide) (de_intI T.int_ (de_add (de_srcGet hu (fun _ => src_mixed) (ow 0)) (de_mul (.inr (by decide)) (de_srcGet hu (fun _ => src_turn) (ow 0)) de_int))) de_int) (by rw [hm]))) ?_
    refine db_at [.o (.src a { s1 with turn := s1.turn + 1 }), .d (.int many), .d (.int s1.left), .d (.int m1)] rfl ?_
    refine db_cons (ds_set (i := 3) (y := .int m2) scPick.nd (de_is (de_mod (by decide) (de_intI T.int_ (de_add (de_mul (i := m1) (j := m1) (.inl ⟨by omega, by omega⟩) (nv 3) (nv 3)) (de_mul (.inr (by decide)) (de_srcGet hu (fun _ => src_turn) (ow 0)) de_int))) de_int) (by rw [hm']))) ?_
    refine db_at [.o (.src a { s1 with turn := s1.turn + 1 }), .d (.int many), .d (.int s1.left), .d (.int m2)] rfl ?_
    refine db_cons (ds_srcSet (i := 0) (st := { s1 with turn := s1.turn + 1 }) (st' := { s1 with turn := s1.turn + 1, mixed := m2 }) hu (fun _ => put_mixed) rfl (nv 3) (ow 0)) ?_
    exact db_one (ds_ret (de_mod (by omega) (de_intI T.int_ (de_fdiv ⟨by decide, by decide⟩ (nv 3) de_int)) (nv 1)))
end
end G

set_option Elab.async false
set_option linter.all false
set_option maxRecDepth 100000
set_option maxHeartbeats 4000000
/- drawn orders, walked -/
namespace G
open PySem L2 PySem.Spec PyProof.Rows
/-! ### a drawn order -/
def anyRun {α : Type} (xs : List α) (s : Src) : Nat → List α × List α × Src
  | 0 => ([], xs, s)
  | n + 1 => ((anyRun xs s n).1 ++ ((anyRun xs s n).2.1[(pick (anyRun xs s n).2.2 (anyRun xs s n).2.1.length).1.toNat]?).toList, (anyRun xs s n).2.1.eraseIdx (pick (anyRun xs s n).2.2 (anyRun xs s n).2.1.length).1.toNat, (pick (anyRun xs s n).2.2 (anyRun xs s n).2.1.length).2)
theorem erase_map {α β : Type} (f : α → β) : ∀ (l : List α) (k : Nat), (l.map f).eraseIdx k = (l.eraseIdx k).map f
  | [], _ => rfl
  | _ :: _, 0 => rfl
  | a :: l, k + 1 => by
    show f a :: (l.map f).eraseIdx k = f a :: (l.eraseIdx k).map f
    rw [erase_map f l k]
theorem anyRun_map {α β : Type} (f : α → β) (xs : List α) (s : Src) : ∀ n : Nat, anyRun (xs.map f) s n = ((anyRun xs s n).1.map f, (anyRun xs s n).2.1.map f, (anyRun xs s n).2.2)
  | 0 => rfl
  | n + 1 => by
    unfold anyRun
    rw [anyRun_map f xs s n]
    dsimp only
    rw [List.length_map, List.getElem?_map, List.map_append, erase_map]
    congr 2
    cases (anyRun xs s n).2.1[(pick (anyRun xs s n).2.2 (anyRun xs s n).2.1.length).1.toNat]? <;> rfl
theorem anyRun_len {α : Type} (xs : List α) (s : Src) : ∀ n : Nat, n ≤ xs.length → (anyRun xs s n).2.1.length = xs.length - n
  | 0, _ => rfl
  | n + 1, h => by
    have ih := anyRun_len xs s n (by omega)
    have q := pick_in (anyRun xs s n).2.2 (many := ((anyRun xs s n).2.1.length : Int)) (by omega)
    unfold anyRun
    dsimp only
    rw [List.length_eraseIdx_of_lt (by omega)]
    omega
theorem erase_perm {α : Type} : ∀ {l : List α} {k : Nat} {x : α}, l[k]? = some x → (l.eraseIdx k ++ [x]).Perm l
  | [], _, _, h => by simp at h
  | a :: l, 0, x, h => by
    simp only [List.getElem?_cons_zero, Option.some.injEq] at h
    subst h
    show (l ++ [a]).Perm (a :: l)
    exact List.perm_append_comm (l₁ := l) (l₂ := [a])
  | a :: l, k + 1, x, h => by
    simp only [List.getElem?_cons_succ] at h
    exact (erase_perm h).cons a
theorem anyRun_perm {α : Type} (xs : List α) (s : Src) : ∀ n : Nat, n ≤ xs.length → ((anyRun xs s n).1 ++ (anyRun xs s n).2.1).Perm xs
  | 0, _ => .refl _
  | n + 1, h => by
    have ih := anyRun_perm xs s n (by omega)
    have hl := anyRun_len xs s n (by omega)
    have q := pick_in (anyRun xs s n).2.2 (many := ((anyRun xs s n).2.1.length : Int)) (by omega)
    unfold anyRun
    dsimp only
    generalize (pick (anyRun xs s n).2.2 (anyRun xs s n).2.1.length).1 = k at q ⊢
    have hk : k.toNat < (anyRun xs s n).2.1.length := by omega
    rw [List.getElem?_eq_getElem hk]
    refine .trans ?_ ih
    rw [List.append_assoc]
    refine .append_left _ ?_
    exact .trans List.perm_append_comm (erase_perm (List.getElem?_eq_getElem hk))
/-- the order drawn, and what is left of the source -/
def anyS {α : Type} (xs : List α) (s : Src) : List α × Src := ((anyRun xs s xs.length).1, (anyRun xs s xs.length).2.2)
theorem anyS_perm {α : Type} (xs : List α) (s : Src) : (anyS xs s).1.Perm xs := by
  have h := anyRun_perm xs s xs.length (Nat.le_refl _)
  have l := anyRun_len xs s xs.length (Nat.le_refl _)
  rw [Nat.sub_self] at l
  rw [List.eq_nil_of_length_eq_zero l, List.append_nil] at h
  exact h
theorem anyS_map {α β : Type} (f : α → β) (xs : List α) (s : Src) : anyS (xs.map f) s = ((anyS xs s).1.map f, (anyS xs s).2) := by
  unfold anyS
  rw [List.length_map, anyRun_map]
section
variable {P : Program} {w : World} {K : PySem.W.Frag} {mg : Str → Option Value} {base : Heap}
end
end G

set_option Elab.async false
set_option linter.all false
set_option maxRecDepth 100000
set_option maxHeartbeats 4000000
/- _law_of, _law_mixed, walked -/
namespace G
open PySem L2 PySem.Spec PyProof.Rows
def psMixA (st : Src) (ds : List PyData) (d : PyData) (st' : Src) : Prop := ∃ (xs : List PyData) (cd : PyData), (cd = .list xs ∨ cd = .tuple xs) ∧ xs.length ≤ 1000 ∧ ds = [cd] ∧ d = .list (anyS xs st).1 ∧ st' = (anyS xs st).2
abbrev nMixA : List Str := ["source", "things", "rest", "lap"]
theorem scMixA : FnScope nMixA ["source", "things"] (defScope sAny) := ⟨rfl, rfl, rfl, by decide +kernel, rfl, by decide +kernel, by decide +kernel⟩
def psOfA (st : Src) (ds : List PyData) (d : PyData) (st' : Src) : Prop := ∃ xs : List PyData, 1 ≤ xs.length ∧ xs.length ≤ 1000 ∧ ds = [.list xs] ∧ d = xs.getD (pick st xs.length).1.toNat .none ∧ st' = (pick st xs.length).2
abbrev nOfA : List Str := ["source", "some"]
theorem scOfA : FnScope nOfA ["source", "some"] (defScope s__law_of) := ⟨rfl, rfl, rfl, by decide +kernel, rfl, by decide +kernel, by decide +kernel⟩
section
variable {P : Program} {w : World} {K : PySem.W.Frag} {mg : Str → Option Value} {base : Heap}
theorem ok_mixA {f f1 : Addr} {fd fd1 : FuncData} (D : Df K mg "_law_mixed" sAny f fd ["source", "things"]) (D1 : Df K mg "_law_pick" sPick f1 fd1 ["source", "many"]) (T : Bt mg) : FnG P w K mg base 2 f fd ["source", "things"] (spS K psMixA) := by
  refine fnS_of D.fn scMixA (fun st ds d st' ⟨_, _, _, _, e, _⟩ => by rw [e]; rfl) ?_
  rintro cdv A outer s H E sa s0 ds d st' hg hr ⟨xs, cd, hcd, hz, rfl, rfl, rfl⟩
  have ih := ok_pick (P := P) (w := w) (base := base) D1 T
  have hq : ∀ ρ : Env', RQ ρ (.d cd) xs := fun ρ => by
    rcases hcd with rfl | rfl
    · exact .l .d
    · exact .t
  have z1 : (4000 : Nat) ≤ sizeLine := by decide
  have hl := fun n => anyRun_len xs s0 n
  refine ⟨[.o (.src sa (anyS xs s0).2), .d cd, .o (.lst (anyRun xs s0 xs.length).2.1), .un], rfl, ?_⟩
  refine db_cons (ds_setL (i := 2) (xs := xs) scMixA.nd (dl_list (hq _) T.list_ (nv 1))) ?_
  refine db_at [.o (.src sa s0), .d cd, .o (.lst xs), .un] rfl ?_
  have eo : ∀ n, n ≤ xs.length → (List.range n).filterMap (fun i => (anyRun xs s0 i).2.1[(pick (anyRun xs s0 i).2.2 (anyRun xs s0 i).2.1.length).1.toNat]?) = (anyRun xs s0 n).1 := by
    intro n hn
    induction n with
    | zero => rfl
    | succ n ihn =>
      have q := pick_in (anyRun xs s0 n).2.2 (many := ((anyRun xs s0 n).2.1.length : Int)) (by have := hl n (by omega); omega)
      have hk : (pick (anyRun xs s0 n).2.2 (anyRun xs s0 n).2.1.length).1.toNat < (anyRun xs s0 n).2.1.length := by omega
      rw [List.range_succ, List.filterMap_append, ihn (by omega)]
      show _ = (anyRun xs s0 n).1 ++ _
      congr 1
  refine db_one (ds_ret (DL.de (dl_is ?_ (dl_lc (own := [("lap", 3)]) rfl scMixA.nd (blkOk_by (N := nMixA) (sc := defScope sAny) (by decide +kernel))
    (di_range (n := (xs.length : Int)) T.range_ (by omega) (da_cons (de_len (.l (.o (i := 2) rfl)) T.len_ (ow 2)) da_nil))
    (fun i => [.o (.src sa (anyRun xs s0 i).2.2), .d cd, .o (.lst (anyRun xs s0 i).2.1), .un]) (fun i => (anyRun xs s0 i).2.1[(pick (anyRun xs s0 i).2.2 (anyRun xs s0 i).2.1.length).1.toNat]?) (fun i x hx => ?_) (Wk.refl _) (fun i => Wk.refl _) (ρ' := [.o (.src sa (anyS xs s0).2), .d cd, .o (.lst (anyRun xs s0 xs.length).2.1), .un]) ?_ ?_))))
  · rw [rangeD_len, Int.toNat_natCast]
    exact eo _ (Nat.le_refl _)
  · obtain ⟨hi, rfl⟩ := range_get hx
    have l1 := hl i (by omega)
    have l2 := hl (i + 1) (by omega)
    have q := pick_in (anyRun xs s0 i).2.2 (many := ((anyRun xs s0 i).2.1.length : Int)) (by omega)
    show LcT _ _ _ _ _ _ _ _ _ [.o (.src sa (pick (anyRun xs s0 i).2.2 (anyRun xs s0 i).2.1.length).2), .d cd, .o (.lst ((anyRun xs s0 i).2.1.eraseIdx (pick (anyRun xs s0 i).2.2 (anyRun xs s0 i).2.1.length).1.toNat)), .un]
    generalize (anyRun xs s0 i).2.2 = si at q ⊢
    generalize (anyRun xs s0 i).2.1 = re at l1 q ⊢
    generalize hp : pick si re.length = p at q ⊢
    obtain ⟨z, sp⟩ := p
    dsimp only at q ⊢
    have hk : z.toNat < re.length := by omega
    rw [List.getElem?_eq_getElem hk]
    refine LcT.map (js := [3]) (by simp) (fun _ _ _ _ _ => dg_name (i := 3) scMixA.nd) (fun _ _ _ _ _ => de_popAt (i := 2) (xs := re) (z := z) (k := z.toNat) (by omega) (by omega) (List.getElem?_eq_getElem hk) (ow 2) (de_callS (i := 0) ih hg (hr.mono (by omega)) D1.mg D1.kp D1.bd (ds := [.int re.length]) (d := .int z) (sr' := sp) ⟨re.length, by omega, by omega, rfl, by rw [hp], by rw [hp]⟩ (ow 0) (da_cons (de_len (.l (.o (i := 2) rfl)) T.len_ (ow 2)) da_nil))) (by first | exact G.Wk.refl _ | (repeat (first | exact G.Wk.nil | apply G.Wk.cons | apply G.Wk.drop)))
  · rw [rangeD_len, Int.toNat_natCast]
    exact mrg_un rfl (by (intro j hj; first | (cases hj with | head => rfl | tail _ h => cases h) | (cases hj with | head => rfl | tail _ h => cases h with | head => rfl | tail _ h => cases h) | (cases hj with | head => rfl | tail _ h => cases h with | head => rfl | tail _ h => cases h with | head => rfl | tail _ h => cases h)))
  · rw [rangeD_len, Int.toNat_natCast]
    omega
theorem ok_ofA {f f1 : Addr} {fd fd1 : FuncData} (D : Df K mg "_law_of" s__law_of f fd ["source", "some"]) (D1 : Df K mg "_law_pick" sPick f1 fd1 ["source", "many"]) (T : Bt mg) : FnG P w K mg base 2 f fd ["source", "some"] (spS K psOfA) := by
  refine fnS_of D.fn scOfA (fun st ds d st' ⟨_, _, _, e, _⟩ => by rw [e]; rfl) ?_
  rintro cdv A outer s H E sa s0 ds d st' hg hr ⟨xs, l1, l2, rfl, rfl, rfl⟩
  have ih := ok_pick (P := P) (w := w) (base := base) D1 T
  have q := pick_in s0 (many := (xs.length : Int)) (by omega)
  generalize hp : pick s0 xs.length = p at q
  obtain ⟨i, s1⟩ := p
  dsimp only at q
  refine ⟨[.o (.src sa s1), .d (.list xs)], rfl, db_one (ds_ret (de_ixL (i := i) .d ?_ (nv 1) (de_callS (i := 0) ih hg (hr.mono (by omega)) D1.mg D1.kp D1.bd (ds := [.int xs.length]) (d := .int i) (sr' := s1) ⟨xs.length, by omega, by omega, rfl, by rw [hp], by rw [hp]⟩ (ow 0) (da_cons (de_len (.l .d) T.len_ (nv 1)) da_nil))))⟩
  unfold atI
  rw [ix_pos q.1 q.2]
  show xs[i.toNat]? = some (xs.getD i.toNat .none)
  rw [List.getD_eq_getElem?_getD, List.getElem?_eq_getElem (by omega)]; rfl
end
end G

set_option Elab.async false
set_option linter.all false
set_option maxRecDepth 100000
set_option maxHeartbeats 4000000
/- what may come out in several ways: expressions, lists, statements, blocks; defs that draw -/
namespace G
open PySem L2 PySem.Spec PyProof.Rows
section
variable (X : Cx)
def DM (ρ : Env') (sts : List Stmt) (P : O → Prop) : Prop := ∀ F Z B H σ D, Ok X.K F Z B H σ ρ → (∀ o, P o → Fin' X.K F Z B D o) → sB X sts D σ H
def SM (ρ : Env') (st : Stmt) (P : O → Prop) : Prop := ∀ F Z B H σ D, Ok X.K F Z B H σ ρ → (∀ o, P o → Fin' X.K F Z B D o) → sS X st D σ H
def EM (ρ : Env') (e : Expr) (P : R → Env' → Prop) : Prop := ∀ F Z B H σ Q, Ok X.K F Z B H σ ρ → (∀ r ρ' v B' H', P r ρ' → Ok X.K F Z B' H' σ ρ' → Sub B B' → VR X.K B' σ v r → Q v H') → sE X e σ H Q
def TM (ρ : Env') (e : Expr) (P : Bool → Env' → Prop) : Prop := ∀ F Z B H σ Q, Ok X.K F Z B H σ ρ → (∀ b ρ' B' H', P b ρ' → Ok X.K F Z B' H' σ ρ' → Sub B B' → Q b H') → sT X e σ H Q
def WM (ρ : Env') (e : Expr) (P : Bool → Env' → Prop) : Prop := ∀ F Z B H σ Q, Ok X.K F Z B H σ ρ → (∀ b ρ' B' H', P b ρ' → Ok X.K F Z B' H' σ ρ' → Sub B B' → Q b H') → sW X e σ H Q
def LM (ρ : Env') (e : Expr) (P : List PyData → Env' → Prop) : Prop := ∀ F Z B H σ Q, Ok X.K F Z B H σ ρ → (∀ xs ρ' p vs B' H', P xs ρ' → Ok X.K F Z B' H' σ ρ' → Sub B B' → New X.K F Z B' H' σ ρ' p → H' p = some (.lst vs) → DpAll X.K B' vs xs → Q (.ref p) H') → sE X e σ H Q
def AM (ρ : Env') (es : List Expr) (P : List PyData → Env' → Prop) : Prop := ∀ F Z B H σ Q, Ok X.K F Z B H σ ρ → (∀ ds ρ' vs B' H', P ds ρ' → Ok X.K F Z B' H' σ ρ' → Sub B B' → DpAll X.K B' vs ds → Q vs H') → sA X es σ H Q
end
section
variable {X : Cx} {ρ ρ' ρ1 ρ2 ρ3 : Env'} {a b c e elt tg iter : Expr} {es ifs : List Expr} {r r1 r2 : R} {pos p : Pos} {st : Stmt} {rest sts body as bs : List Stmt} {o : O} {xs ds : List PyData} {d : PyData} {P P1 : O → Prop}
theorem em_of {P : R → Env' → Prop} (h : DE X ρ e r ρ1) (q : P r ρ1) : EM X ρ e P := fun F Z B H σ Q k z => h F Z B H σ Q k fun v B' H' k' x w => z r ρ1 v B' H' q k' x w
theorem lm_of {P : List PyData → Env' → Prop} (h : DL X ρ e xs ρ1) (q : P xs ρ1) : LM X ρ e P := fun F Z B H σ Q k z => h F Z B H σ Q k fun p vs B' H' k' x n hp t => z xs ρ1 p vs B' H' q k' x n hp t
theorem am_of {P : List PyData → Env' → Prop} (h : DA X ρ es ds ρ1) (q : P ds ρ1) : AM X ρ es P := fun F Z B H σ Q k z => h F Z B H σ Q k fun vs B' H' k' x t => z ds ρ1 vs B' H' q k' x t
theorem tm_of {x : Bool} {P : Bool → Env' → Prop} (h : DT X ρ e x ρ1) (q : P x ρ1) : TM X ρ e P := fun F Z B H σ Q k z => h F Z B H σ Q k fun B' H' k' y => z x ρ1 B' H' q k' y
theorem wm_of {x : Bool} {P : Bool → Env' → Prop} (h : DW X ρ e x ρ1) (q : P x ρ1) : WM X ρ e P := fun F Z B H σ Q k z => h F Z B H σ Q k fun B' H' k' y => z x ρ1 B' H' q k' y
theorem dm_of (h : DB X ρ sts o) (q : P o) : DM X ρ sts P := fun F Z B H σ D k z => h F Z B H σ D k (z o q)
theorem sm_of (h : DS X ρ st o) (q : P o) : SM X ρ st P := fun F Z B H σ D k z => h F Z B H σ D k (z o q)
theorem EM.mono {P P' : R → Env' → Prop} (h : EM X ρ e P) (m : ∀ r ρ', P r ρ' → P' r ρ') : EM X ρ e P' := fun F Z B H σ Q k z => h F Z B H σ Q k fun r ρ' v B' H' q => z r ρ' v B' H' (m r ρ' q)
theorem LM.mono {P P' : List PyData → Env' → Prop} (h : LM X ρ e P) (m : ∀ r ρ', P r ρ' → P' r ρ') : LM X ρ e P' := fun F Z B H σ Q k z => h F Z B H σ Q k fun r ρ' p v B' H' q => z r ρ' p v B' H' (m r ρ' q)
theorem DM.mono {P' : O → Prop} (h : DM X ρ sts P) (m : ∀ o, P o → P' o) : DM X ρ sts P' := fun F Z B H σ D k z => h F Z B H σ D k fun o q => z o (m o q)
/-! ### blocks -/
theorem dm_seq (h : SM X ρ st P1) (t : ∀ ρ1, P1 (.nx ρ1) → DM X ρ1 rest P) (u : ∀ o, P1 o → (∀ ρ, o ≠ .nx ρ) → P o) : DM X ρ (st :: rest) P := fun F Z B H σ D k q =>
  ⟨_, pss_cons ps_s pb_s, h F Z B H σ { D with nx := sB X rest D } k fun o hp => by
    cases o with
    | nx ρ1 => exact fun B1 H1 σ1 k1 x1 => t ρ1 hp F Z B1 H1 σ1 D k1 fun o ho => (q o ho).sub x1
    | rt d ρ1 => exact q _ (u _ hp fun _ z => nomatch z)
    | bk ρ1 => exact q _ (u _ hp fun _ z => nomatch z)
    | ct ρ1 => exact q _ (u _ hp fun _ z => nomatch z)⟩
theorem dm_cons (h : DS X ρ st (.nx ρ1)) (t : DM X ρ1 rest P) : DM X ρ (st :: rest) P :=
  dm_seq (P1 := fun o => o = .nx ρ1) (sm_of h rfl) (fun ρ2 e => by cases e; exact t) fun o e n => absurd e (n ρ1)
/-- a statement that goes on, in any of several ways -/
theorem dm_go {J : Env' → Prop} (h : SM X ρ st fun o => ∃ ρ1, o = .nx ρ1 ∧ J ρ1) (t : ∀ ρ1, J ρ1 → DM X ρ1 rest P) : DM X ρ (st :: rest) P :=
  dm_seq h (fun ρ2 ⟨_, e, j⟩ => by cases e; exact t _ j) fun o ⟨ρ1, e, _⟩ n => absurd e (n ρ1)
theorem dm_at (ρ2 : Env') (e : ρ = ρ2) (h : DM X ρ2 sts P) : DM X ρ sts P := e ▸ h
theorem dm_still {i : Nat} (t : DM X (ρ.set i (.d (.list xs))) sts P) (hs : ρ[i]? = some (.o (.lst xs)) := by rfl) : DM X ρ sts P := fun F Z B H σ D k q => by
  obtain ⟨B', x, k'⟩ := k.still (gS_some hs)
  exact t F Z B' H σ D k' fun o ho => (q o ho).sub x
theorem dm_weak (w : Wk ρ ρ2) (h : DM X ρ2 sts P) : DM X ρ sts P := fun F Z B H σ D k q => h F Z B H σ D (k.weak w) q
theorem dm_nil (q : P (.nx ρ)) : DM X ρ [] P := dm_of db_nil q
theorem dm_end (ρ2 : Env') (q : P (.nx ρ2)) (w : Wk ρ ρ2) : DM X ρ [] P := dm_weak w (dm_nil q)
theorem dm_one (h : SM X ρ st P) : DM X ρ [st] P := fun F Z B H σ D k q => ⟨_, pss_one ps_s, h F Z B H σ D k q⟩
theorem dm_ret {y : PyData} (h : DE X ρ e (.d y) ρ1) (q : P (.rt y ρ1)) : DM X ρ [.Return (some e) pos] P := dm_of (db_one (ds_ret h)) q
theorem dm_retM (h : EM X ρ e fun r ρ1 => ∃ y, r = .d y ∧ P (.rt y ρ1)) : DM X ρ [.Return (some e) pos] P := fun F Z B H σ D k q =>
  ⟨_, pss_one (ps_ret pe_s), h F Z B H σ _ k fun r ρ1 v B1 H1 hp k1 x1 w => by
    obtain ⟨y, rfl, hp⟩ := hp
    exact q _ hp v B1 H1 σ k1 x1 w⟩
theorem sm_ret (h : EM X ρ e fun r ρ1 => ∃ y, r = .d y ∧ P (.rt y ρ1)) : SM X ρ (.Return (some e) pos) P := fun F Z B H σ D k q =>
  ⟨_, ps_ret pe_s, h F Z B H σ _ k fun r ρ1 v B1 H1 hp k1 x1 w => by
    obtain ⟨y, rfl, hp⟩ := hp
    exact q _ hp v B1 H1 σ k1 x1 w⟩
theorem sm_if {x : Bool} (h : DT X ρ c x ρ1) (h1 : x = true → DM X ρ1 as P) (h2 : x = false → DM X ρ1 bs P) : SM X ρ (.If c as bs pos) P := fun F Z B H σ D k q =>
  ⟨_, ps_if pt_s pb_s pb_s, h F Z B H σ _ k fun B1 H1 k1 x1 => by
    cases x with
    | true =>
      rw [if_pos rfl]
      exact h1 rfl F Z B1 H1 σ D k1 fun o ho => (q o ho).sub x1
    | false =>
      rw [if_neg (by decide)]
      exact h2 rfl F Z B1 H1 σ D k1 fun o ho => (q o ho).sub x1⟩
theorem sm_ifM {C : Bool → Env' → Prop} (h : TM X ρ c C) (h1 : ∀ ρ1, C true ρ1 → DM X ρ1 as P) (h2 : ∀ ρ1, C false ρ1 → DM X ρ1 bs P) : SM X ρ (.If c as bs pos) P := fun F Z B H σ D k q =>
  ⟨_, ps_if pt_s pb_s pb_s, h F Z B H σ _ k fun x ρ1 B1 H1 hc k1 x1 => by
    cases x with
    | true =>
      rw [if_pos rfl]
      exact h1 ρ1 hc F Z B1 H1 σ D k1 fun o ho => (q o ho).sub x1
    | false =>
      rw [if_neg (by decide)]
      exact h2 ρ1 hc F Z B1 H1 σ D k1 fun o ho => (q o ho).sub x1⟩
/-- if c: return ..; what is behind it -/
theorem dm_if {x : Bool} (h : DT X ρ c x ρ1) (h1 : x = true → DM X ρ1 as fun o => P o ∧ ∀ ρ, o ≠ .nx ρ) (h2 : x = false → DM X ρ1 rest P) : DM X ρ (.If c as [] pos :: rest) P :=
  dm_seq (P1 := fun o => (o = .nx ρ1 ∧ x = false) ∨ (P o ∧ ∀ ρ, o ≠ .nx ρ)) (sm_if h (fun e => (h1 e).mono fun o q => .inr q) fun e => dm_nil (.inl ⟨rfl, e⟩))
    (fun ρ2 q => by
      rcases q with ⟨e, e'⟩ | ⟨_, q⟩
      · cases e; exact h2 e'
      · exact absurd rfl (q ρ2)) fun o q n => by
      rcases q with ⟨e, _⟩ | ⟨q, _⟩
      · exact absurd e (n _)
      · exact q
theorem dm_ifF (h : DT X ρ c false ρ1) (t : DM X ρ1 rest P) : DM X ρ (.If c as [] pos :: rest) P := dm_if h (fun e => nomatch e) fun _ => t
/-- if c: ..; both ways go on, in a kind of environments -/
theorem dm_ifJ {x : Bool} {J : Env' → Prop} (h : DT X ρ c x ρ1) (h1 : x = true → DM X ρ1 as fun o => ∃ ρ', o = .nx ρ' ∧ J ρ') (h2 : x = false → DM X ρ1 bs fun o => ∃ ρ', o = .nx ρ' ∧ J ρ') (t : ∀ ρ', J ρ' → DM X ρ' rest P) : DM X ρ (.If c as bs pos :: rest) P :=
  dm_go (sm_if h h1 h2) t
/-- for: J i is kept by all turns; a turn may leave, too -/
theorem sm_for (J : Nat → Env' → Prop) (hp : PassesOwn (model X.prog X.w) X.A X.env X.xe) (hc : X.calm = true) (hi : DI X ρ tg iter xs ρ1) (h0 : J 0 ρ1)
    (turn : ∀ (i : Nat) (x : PyData) (ρa : Env'), xs[i]? = some x → J i ρa → ∃ ρt js, DG X ρa tg x js ρt ∧ DM X ρt body fun o => match o with | .nx ρ' => J (i + 1) ρ' | .ct ρ' => J (i + 1) ρ' | .bk ρ' => P (.nx ρ') | .rt d ρ' => P (.rt d ρ'))
    (go : ∀ ρ', J xs.length ρ' → P (.nx ρ')) (hs : ∀ x, foldedSetIterable iter X.env x = pure x := by intro _; rfl) : SM X ρ (.For tg iter body [] pos) P := fun F Z B H σ D k q =>
  ⟨_, ps_for hp hc pi_s pg_s pb_s hs, hi F Z B H σ _ k fun Jt n G Y B1 H1 k1 x1 hn W hG hY => by
    subst hn
    refine for_it W (fun i σ' H' => ∃ B' ρa, J i ρa ∧ Ok X.K F Z B' H' σ' ρa ∧ Sub B1 B') ⟨B1, ρ1, h0, k1, Sub.refl B1⟩ (fun i σ' H' _ ⟨B', _, _, k', y⟩ => hG B' H' y k'.exB) ?_ fun σ' H' ⟨B', ρa, ja, k', y⟩ => q _ (go ρa ja) B' H' σ' k' (x1.trans y)
    rintro i v σ' H' H2 hi' ⟨B', ρa, ja, k', y⟩ hv
    obtain ⟨B2, x, hx, k2, y2, w⟩ := hY F Z B' H' σ' ρa i v H2 k' y hi' hv
    obtain ⟨ρt, js, t1, t2⟩ := turn i x ρa hx ja
    refine t1 F Z B2 H2 σ' v _ k2 w fun B3 H3 σ3 k3 y3 _ => ?_
    refine t2 F Z B3 H3 σ3 _ k3 fun o ho => ?_
    have yy := (y.trans y2).trans y3
    cases o with
    | nx ρ' => exact fun B4 H4 σ4 k4 y4 => ⟨B4, ρ', ho, k4, yy.trans y4⟩
    | ct ρ' => exact fun B4 H4 σ4 k4 y4 => ⟨B4, ρ', ho, k4, yy.trans y4⟩
    | bk ρ' => exact fun B4 H4 σ4 k4 y4 => q _ ho B4 H4 σ4 k4 ((x1.trans yy).trans y4)
    | rt d ρ' => exact fun v B4 H4 σ4 k4 y4 w4 => q _ ho v B4 H4 σ4 k4 ((x1.trans yy).trans y4) w4⟩
/-- .. that goes on -/
theorem dm_for (J : Nat → Env' → Prop) (hp : PassesOwn (model X.prog X.w) X.A X.env X.xe) (hc : X.calm = true) (hi : DI X ρ tg iter xs ρ1) (h0 : J 0 ρ1)
    (turn : ∀ (i : Nat) (x : PyData) (ρa : Env'), xs[i]? = some x → J i ρa → ∃ ρt js, DG X ρa tg x js ρt ∧ DM X ρt body fun o => ∃ ρ', o = .nx ρ' ∧ J (i + 1) ρ')
    (go : ∀ ρ', J xs.length ρ' → DM X ρ' rest P) (hs : ∀ x, foldedSetIterable iter X.env x = pure x := by intro _; rfl) : DM X ρ (.For tg iter body [] pos :: rest) P :=
  dm_go (J := J xs.length) (sm_for J hp hc hi h0 (fun i x ρa hx ja => by
    obtain ⟨ρt, js, t1, t2⟩ := turn i x ρa hx ja
    exact ⟨ρt, js, t1, t2.mono fun o ⟨ρ', e, j⟩ => by subst e; exact j⟩) (fun ρ' j => ⟨ρ', rfl, j⟩) hs) go
/-! ### stores -/
section
variable {i : Nat} {x : Str} {pos' : Pos}
theorem sm_set (hN : X.N.Nodup) (he : EM X ρ e fun r ρ1 => ∃ y, r = .d y ∧ P (.nx (ρ1.set i (.d y)))) (hi : X.N[i]? = some x := by rfl) (hx : Loc X.env.scope x := by first | exact Or.inl rfl | exact Or.inr rfl) (hs : swapsWith e (some (.Name x pos')) pos.line X.env = pure false := by rfl)
    (hf : X.fn x = true ∨ X.env.scope.names.lookup x = some .local := by first | exact .inl rfl | exact .inr rfl) : SM X ρ (.Assign [.Name x pos'] e pos) P := fun F Z B H σ D k q =>
  ⟨_, ps_set hN hi hx pe_s hs hf, he F Z B H σ _ k fun r ρ1 v B1 H1 hp k1 x1 w => by
    obtain ⟨y, rfl, hp⟩ := hp
    exact q _ hp B1 H1 _ (k1.setD w) x1⟩
theorem sm_setL (hN : X.N.Nodup) (he : LM X ρ e fun xs ρ1 => i < ρ1.length ∧ P (.nx (ρ1.set i (.o (.lst xs))))) (hi : X.N[i]? = some x := by rfl) (hx : Loc X.env.scope x := by first | exact Or.inl rfl | exact Or.inr rfl) (hs : swapsWith e (some (.Name x pos')) pos.line X.env = pure false := by rfl)
    (hf : X.fn x = true ∨ X.env.scope.names.lookup x = some .local := by first | exact .inl rfl | exact .inr rfl) : SM X ρ (.Assign [.Name x pos'] e pos) P := fun F Z B H σ D k q =>
  ⟨_, ps_set hN hi hx pe_s hs hf, he F Z B H σ _ k fun xs ρ1 p vs B1 H1 hp k1 x1 n hq t => q _ hp.2 B1 H1 _ (k1.take n hp.1 (.lst hq t)) x1⟩
theorem sm_asg (he : EM X ρ e fun r ρ1 => ∃ d js ρ2, r = .d d ∧ DG X ρ1 tg d js ρ2 ∧ P (.nx ρ2)) (hs : swapsWithSole [tg] e pos.line X.env = pure false := by rfl) (hw : swappedStores [tg] e X.env = pure none := by rfl)
    (h1 : (assignEach [tg] X.env).map (·.2) = [assign tg X.env] := by rfl) : SM X ρ (.Assign [tg] e pos) P := fun F Z B H σ D k q =>
  ⟨_, ps_asg pe_s pg_s hs hw h1, he F Z B H σ _ k fun r ρ1 v B1 H1 hp k1 x1 w1 => by
    obtain ⟨d, js, ρ2, rfl, hg, hp⟩ := hp
    exact hg F Z B1 H1 σ v _ k1 w1 fun B2 H2 σ2 k2 x2 _ => q _ hp B2 H2 σ2 k2 (x1.trans x2)⟩
theorem sm_par {j : Nat} {y : Str} {px py pt : Pos} {kt k2 pt2} (hc : X.calm = true) (hN : X.N.Nodup) (ha : AM X ρ [a, b] fun ds ρ1 => ∃ d1 d2, ds = [d1, d2] ∧ P (.nx ((ρ1.set i (.d d1)).set j (.d d2)))) (hi : X.N[i]? = some x := by rfl) (hj : X.N[j]? = some y := by rfl) (hij : i ≠ j := by decide)
    (hx : X.env.scope.names.lookup x = some .local := by rfl) (hy : X.env.scope.names.lookup y = some .local := by rfl)
    (hw : swappedStores [.Tuple [.Name x px, .Name y py] kt pt] (.Tuple [a, b] k2 pt2) X.env = pure (some [x, y]) := by rfl)
    (hs : swapsWithSole [.Tuple [.Name x px, .Name y py] kt pt] (.Tuple [a, b] k2 pt2) pos.line X.env = pure false := by rfl) :
    SM X ρ (.Assign [.Tuple [.Name x px, .Name y py] kt pt] (.Tuple [a, b] k2 pt2) pos) P := fun F Z B H σ D k q =>
  ⟨_, ps_par hc hN hi hj hij hx hy pa_s hw hs, ha F Z B H σ _ k fun ds ρ1 vs B1 H1 hp k1 x1 t => by
    obtain ⟨d1, d2, rfl, hp⟩ := hp
    cases t with
    | cons t1 t =>
    cases t with
    | cons t2 t =>
    cases t
    exact ⟨_, _, rfl, q _ hp B1 H1 _ ((k1.setD t1).setD t2) x1⟩⟩
end
/-! ### parts -/
theorem LM.em {P : R → Env' → Prop} (h : LM X ρ e fun xs ρ' => P (.d (.list xs)) ρ') : EM X ρ e P := fun F Z B H σ Q k q =>
  h F Z B H σ Q k fun xs ρ' p vs B' H' hp k' x n hq dv => q _ _ _ _ _ hp (k'.adopt n hq) (x.trans (Sub.new _ n.b)) (Dp.lst (SqL.of upd_same) (dpAll_mono (Sub.new _ n.b) dv))
theorem am_nil {P : List PyData → Env' → Prop} (q : P [] ρ) : AM X ρ [] P := am_of da_nil q
theorem am_cons {P : List PyData → Env' → Prop} (h : EM X ρ e fun r ρ1 => ∃ y, r = .d y ∧ AM X ρ1 es fun ds ρ2 => P (y :: ds) ρ2) (hs : starEach (e :: es) X.env = (false, eval e X.env) :: starEach es X.env := by rfl) : AM X ρ (e :: es) P := fun F Z B H σ Q k q =>
  ⟨_, pa_cons pe_s pa_s hs, h F Z B H σ _ k fun r ρ1 v B1 H1 hp k1 x1 w1 => by
    obtain ⟨y, rfl, hp⟩ := hp
    exact hp F Z B1 H1 σ _ k1 fun ds ρ2 vs B2 H2 hq k2 x2 w2 => q (y :: ds) ρ2 (v :: vs) B2 H2 hq k2 (x1.trans x2) (.cons (dp_mono x2 w1) w2)⟩
theorem em_tup {P : R → Env' → Prop} {x1} (h : AM X ρ es fun ds ρ' => ds.length ≤ 100000 ∧ P (.d (.tuple ds)) ρ') : EM X ρ (.Tuple es x1 pos) P := fun F Z B H σ Q k q =>
  ⟨_, pe_tupN pa_s, h F Z B H σ _ k fun ds ρ' vs B1 H1 hp k1 y w => ⟨by rw [DpAll.length w]; exact Nat.le_trans hp.1 (by decide), k1.newT w fun v B2 H2 k2 y2 w2 => q _ _ v B2 H2 hp.2 k2 (y.trans y2) w2⟩⟩
theorem lm_lst {P : List PyData → Env' → Prop} (h : AM X ρ es fun ds ρ' => ds.length ≤ 100000 ∧ P ds ρ') : LM X ρ (.List es pos) P := fun F Z B H σ Q k q =>
  ⟨_, pe_lst pa_s, h F Z B H σ _ k fun ds ρ' vs B1 H1 hp k1 y w => ⟨by rw [DpAll.length w]; exact Nat.le_trans hp.1 (by decide), fun p hn => q ds ρ' p vs B1 _ hp.2 (k1.loose hn _) y (k1.laid hn _) upd_same w⟩⟩
theorem em_op {op : Operator} {rr : R2} {P : R → Env' → Prop} (ho : OpR X (binaryOp op) rr) (ha : EM X ρ a fun r1 ρ1 => EM X ρ1 b fun r2 ρ2 => ∃ r3, OpD X.K rr ρ2 r1 r2 r3 ∧ P r3 ρ2) : EM X ρ (.BinOp a op b pos) P := fun F Z B H σ Q k q =>
  ⟨_, pe_op ho pe_s pe_s, ha F Z B H σ _ k fun r1 ρ1 v1 B1 H1 h1 k1 x1 w1 => h1 F Z B1 H1 σ _ k1 fun r2 ρ2 v2 B2 H2 ⟨r3, hd, hp⟩ k2 x2 w2 => hd F Z B2 H2 σ Q v1 v2 k2 (w1.mono x2) w2 fun v3 B3 H3 k3 x3 w3 => q r3 ρ2 v3 B3 H3 hp k3 ((x1.trans x2).trans x3) w3⟩
theorem em_addR {P : R → Env' → Prop} {i : Int} (ha : DE X ρ a (.d (.int i)) ρ1) (hb : EM X ρ1 b fun r ρ2 => ∃ j, r = .d (.int j) ∧ P (.d (.int (i + j))) ρ2) : EM X ρ (.BinOp a .Add b pos) P :=
  em_op op_add (em_of ha (hb.mono fun r ρ2 ⟨j, e, hp⟩ => ⟨_, e ▸ od_I0 fun _ _ => .int _, hp⟩))
theorem em_cT {T : String} {rr : List V → Hp → VK → Prop} {x : Str} {P P' : R → Env' → Prop} (hc : CallR X (.type T) rr) (hv : bootBuiltins x = some (.type T)) (hm : X.mg x = none) (hg : Gl X x) (h : EM X ρ e P') (hd : ∀ r ρ1, P' r ρ1 → ∃ r3, C1 X.K rr ρ1 r r3 ∧ P r3 ρ1) (hn : x ≠ "__name__" := by decide) (hdb : (x == ("__debug__" : Str)) = false := by decide)
    (he : starEach [e] X.env = (false, eval e X.env) :: starEach [] X.env := by rfl) (hpl : (backTo pos (starEach [] X.env)).any (·.1) = false := by rfl) : EM X ρ (.Call (.Name x p) [e] [] pos) P := fun F Z B H σ Q k q =>
  ⟨_, pe_callTy hc hg hm hv (pa_cons pe_s pa_nil he) hn hdb he hpl, h F Z B H σ _ k fun r ρ1 v B1 H1 hp k1 x1 w => by
    obtain ⟨r3, hd, hp⟩ := hd r ρ1 hp
    exact hd F Z B1 H1 σ Q v k1 w fun v3 B2 H2 k2 x2 w2 => q r3 ρ1 v3 B2 H2 hp k2 (x1.trans x2) w2⟩
/-- tuple(e), e a list that may be one of several -/
theorem em_tupL {P : R → Env' → Prop} (hm : X.mg "tuple" = none) (h : LM X ρ e fun xs ρ' => P (.d (.tuple xs)) ρ') (hg : Gl X "tuple" := by rfl) (he : starEach [e] X.env = (false, eval e X.env) :: starEach [] X.env := by rfl) (hpl : (backTo pos (starEach [] X.env)).any (·.1) = false := by rfl) : EM X ρ (.Call (.Name "tuple" p) [e] [] pos) P :=
  em_cT (P' := fun r ρ' => ∃ xs, r = .d (.list xs) ∧ P (.d (.tuple xs)) ρ') call_tupleN PyProof.Rows.boot_tuple hm hg (LM.em (h.mono fun xs ρ' q => ⟨xs, rfl, q⟩)) (fun r ρ1 ⟨xs, e, q⟩ => ⟨_, fun F Z B H σ Q v k w q => by
    subst e
    obtain ⟨p, vs, e, s, t⟩ := (RL.d (ρ := ρ1) (xs := xs)).at k w
    exact ⟨p, vs, congrArg (fun z => [z]) e, s, k.newT t q⟩, q⟩) (by decide) (by decide) he hpl
/-! ### comprehensions -/
/-- one turn of a comprehension, in any of several ways -/
def LcM (X : Cx) (scope : Scope) (vs : List Nat) (tg : Expr) (ifs : List Expr) (elt : Expr) (x : PyData) (ρ : Env') (P : Option PyData → Env' → Prop) : Prop :=
  ∃ ρt js, (∀ j ∈ js, j ∈ vs) ∧ (Blk X scope fun Y => DG Y ρ tg x js ρt) ∧ Blk X scope fun Y => ∀ F Z B H σ Q, Ok Y.K F Z B H σ ρt → (∀ b ρa B' H', (b = true → Blk X scope fun Y' => EM Y' ρa elt fun r ρe => ∃ z, r = .d z ∧ P (some z) ρe) → (b = false → P none ρa) → Ok Y.K F Z B' H' σ ρa → Sub B B' → Q b H') → ∃ t, PTs Y ifs t ∧ t σ H Q
theorem lm_go {scope : Scope} {vs : List Nat} {P : List PyData → Env' → Prop} (hi : DI X ρ tg iter xs ρ1) (J : Nat → List PyData → Env' → Prop) (h0 : ∃ ρ0, Wk (wipeE ρ1 vs) ρ0 ∧ J 0 [] ρ0)
    (turn : ∀ (i : Nat) (x : PyData) (ys : List PyData) (ρa : Env'), xs[i]? = some x → J i ys ρa → LcM X scope vs tg ifs elt x ρa fun y ρe => ∃ ρb, Wk (wipeE ρe vs) ρb ∧ J (i + 1) (ys ++ y.toList) ρb)
    (go : ∀ ys ρn, J xs.length ys ρn → ∃ ρ', Mrg ρ1 ρn vs ρ' ∧ P ys ρ') (hz : xs.length ≤ sizeLine)
    {F : Hp} {Z : Addr → Prop} {B H : Hp} {σ : L2.St} {Q : VK} (k : Ok X.K F Z B H σ ρ)
    (q : ∀ ys ρ' p us B' H', P ys ρ' → Ok X.K F Z B' H' σ ρ' → Sub B B' → New X.K F Z B' H' σ ρ' p → H' p = some (.lst us) → DpAll X.K B' us ys → Q (.ref p) H') :
    tLc (sI X tg iter) (bG X scope tg) (bT X scope ifs) (bE X scope elt) vs σ H Q :=
  hi F Z B H σ _ k fun Jt n G Y B1 H1 k1 x1 hn W hG hY D hD => by
    subst hn
    obtain ⟨ρ0, w0, j0⟩ := h0
    have kw := (k1.wipe vs).weak w0
    obtain ⟨frD, _, frZ⟩ := k1.fresh hD
    refine lc_it W (fun i H' => ∃ B' acc ys ρa, J i ys ρa ∧ ys.length ≤ i ∧ Ok X.K F Z B' H' (wipe σ vs) ρa ∧ Sub B1 B' ∧ New X.K F Z B' H' (wipe σ vs) ρa D ∧ H' D = some (.lst acc) ∧ DpAll X.K B' acc ys) ?_ ?_ ?_ ?_
    · exact ⟨B1, [], [], ρ0, j0, Nat.le_refl _, kw.loose hD _, Sub.refl B1, kw.laid hD _, upd_same, .nil⟩
    · rintro i H' _ ⟨B', acc, ys, ρa, _, _, k', y, _⟩
      exact hG B' H' y k'.exB
    · rintro i v H' H2 hi' ⟨B', acc, ys, ρa, ja, ly, k', y, nw, hD', t⟩ hv
      have hacc : acc.length ≤ i := by rw [DpAll.length t]; exact ly
      obtain ⟨B2, x, hx, k2, y2, w⟩ := hY _ _ B' H' (wipe σ vs) ρa i v H2 (k'.lock nw hD') y hi' hv
      obtain ⟨ρt, js, t1, t2, t3⟩ := turn i x ys ρa hx ja
      intro s0 H0 C0 cl0 fp0
      refine t2 s0 H0 C0 cl0 fp0 _ _ B2 H2 (wipe σ vs) v _ k2 w fun B3 H3 σ3 k3 y3 wp => ?_
      have e3 : wipe σ3 vs = wipe σ vs := wipe_wipe (wp vs t1)
      have close : ∀ {ρe ρb : Env'} {B5 H5 : Hp}, Ok X.K (upd F D (.lst acc)) (fun a => Z a ∨ a = D) B5 H5 σ3 ρe → Wk (wipeE ρe vs) ρb → Ok X.K (upd F D (.lst acc)) (fun a => Z a ∨ a = D) B5 H5 (wipe σ vs) ρb := by
        intro ρe ρb B5 H5 k5 wk
        have q5 := (k5.wipe vs).weak wk
        rw [e3] at q5
        exact q5
      refine ⟨by rw [e3], ?_⟩
      intro s1 H1' C1 cl1 fp1
      refine t3 s1 H1' C1 cl1 fp1 _ _ B3 H3 σ3 _ k3 fun b ρb B4 H4 ht hf k4 y4 => ?_
      cases b with
      | true =>
        rw [if_pos rfl]
        intro s2 H2' C2 cl2 fp2
        refine ht rfl s2 H2' C2 cl2 fp2 _ _ B4 H4 σ3 _ k4 fun r ρe vz B5 H5 hr k5 y5 w5 => ?_
        obtain ⟨z, rfl, ρc, wk, jc⟩ := hr
        obtain ⟨k6, n6, h6⟩ := (close k5 wk).unlock frD frZ
        have yy : Sub B' B5 := ((y2.trans y3).trans y4).trans y5
        exact ⟨acc, h6, by omega, B5, acc ++ [vz], ys ++ [z], ρc, jc, by rw [List.length_append]; simp only [List.length_cons, List.length_nil]; omega, k6.poke n6, y.trans yy, n6.poke k6, upd_same, _root_.G.DpAll.append (dpAll_mono yy t) (.cons w5 .nil)⟩
      | false =>
        rw [if_neg (by decide)]
        obtain ⟨ρc, wk, jc⟩ := hf rfl
        obtain ⟨k6, n6, h6⟩ := (close k4 wk).unlock frD frZ
        have yy : Sub B' B4 := (y2.trans y3).trans y4
        refine ⟨B4, acc, ys, ρc, by simpa using jc, by omega, k6, y.trans yy, n6, h6, dpAll_mono yy t⟩
    · rintro H' ⟨B', acc, ys, ρa, ja, _, k', y, nw, hD', t⟩
      obtain ⟨ρ', hm, hp⟩ := go ys ρa ja
      obtain ⟨k6, n6, h6⟩ := (Ok.merge k1 (k'.lock nw hD') y hm).unlock frD frZ
      exact q ys ρ' D acc B' H' hp k6 (x1.trans y) n6 h6 t
end
end G

set_option Elab.async false
set_option linter.all false
set_option maxRecDepth 100000
set_option maxHeartbeats 4000000
/- comprehensions that draw; defs that draw, by what they may give -/
namespace G
open PySem L2 PySem.Spec PyProof.Rows
section
variable {X : Cx} {ρ ρ' ρ1 ρ2 ρ3 : Env'} {a b c e elt tg iter : Expr} {es ifs : List Expr} {r r1 r2 : R} {pos p : Pos} {st : Stmt} {rest sts body as bs : List Stmt} {o : O} {xs ds : List PyData} {d : PyData} {P : O → Prop}
theorem TM.mono {C C' : Bool → Env' → Prop} (h : TM X ρ e C) (m : ∀ b ρ', C b ρ' → C' b ρ') : TM X ρ e C' := fun F Z B H σ Q k z => h F Z B H σ Q k fun b ρ' B' H' q => z b ρ' B' H' (m b ρ' q)
theorem tm_cmp {op : CmpOp} {rr : R2} {C : Bool → Env' → Prop} (ho : OpR X (compareOp op) rr) (ha : EM X ρ a fun r1 ρ1 => EM X ρ1 b fun r2 ρ2 => ∃ c, OpD X.K rr ρ2 r1 r2 (.d (.bool c)) ∧ C c ρ2) (hm : behindInMarks op b = false) : TM X ρ (.Compare a [op] [b] pos) C := fun F Z B H σ Q k q =>
  ⟨_, pt_cmpR ho pe_s pe_s hm, ha F Z B H σ _ k fun r1 ρ1 v1 B1 H1 h1 k1 x1 w1 => h1 F Z B1 H1 σ _ k1 fun r2 ρ2 v2 B2 H2 ⟨c, hd, hp⟩ k2 x2 w2 => hd F Z B2 H2 σ _ v1 v2 k2 (w1.mono x2) w2 fun v3 B3 H3 k3 x3 w3 => by
    cases w3
    exact ⟨c, rfl, q c ρ2 B3 H3 hp k3 ((x1.trans x2).trans x3)⟩⟩
theorem wm_and {x : Bool} {C : Bool → Env' → Prop} (h : DT X ρ a x ρ1) (h1 : x = true → WM X ρ1 (.BoolOp .And (b :: es) pos) C) (h2 : x = false → C false ρ1) : WM X ρ (.BoolOp .And (a :: b :: es) pos) C := fun F Z B H σ Q k q =>
  ⟨_, pw_and pt_s pw_s, h F Z B H σ _ k fun B1 H1 k1 x1 => by
    cases x with
    | true =>
      rw [if_pos rfl]
      exact h1 rfl F Z B1 H1 σ Q k1 fun b ρ2 B2 H2 hp k2 x2 => q b ρ2 B2 H2 hp k2 (x1.trans x2)
    | false =>
      rw [if_neg (by decide)]
      exact q false ρ1 B1 H1 (h2 rfl) k1 x1⟩
theorem wm_or {x : Bool} {C : Bool → Env' → Prop} (h : DT X ρ a x ρ1) (h1 : x = false → WM X ρ1 (.BoolOp .Or (b :: es) pos) C) (h2 : x = true → C true ρ1) : WM X ρ (.BoolOp .Or (a :: b :: es) pos) C := fun F Z B H σ Q k q =>
  ⟨_, pw_or pt_s pw_s, h F Z B H σ _ k fun B1 H1 k1 x1 => by
    cases x with
    | false =>
      rw [if_neg (by decide)]
      exact h1 rfl F Z B1 H1 σ Q k1 fun b ρ2 B2 H2 hp k2 x2 => q b ρ2 B2 H2 hp k2 (x1.trans x2)
    | true =>
      rw [if_pos rfl]
      exact q true ρ1 B1 H1 (h2 rfl) k1 x1⟩
theorem wm_and1 {C : Bool → Env' → Prop} (h : TM X ρ a C) : WM X ρ (.BoolOp .And [a] pos) C := fun F Z B H σ Q k q => ⟨_, pw_and1 pt_s, h F Z B H σ Q k q⟩
theorem wm_or1 {C : Bool → Env' → Prop} (h : TM X ρ a C) : WM X ρ (.BoolOp .Or [a] pos) C := fun F Z B H σ Q k q => ⟨_, pw_or1 pt_s, h F Z B H σ Q k q⟩
theorem wipe_wk {ρe : Env'} {vs : List Nat} (w : Wk ρe ρ') (h : ∀ j ∈ vs, gS ρ' j = .un) : Wk (wipeE ρe vs) ρ' := ⟨by rw [wipeE_len]; exact w.1, fun i => by
  by_cases m : i ∈ vs
  · exact .inr (h i m)
  · rw [wipeE_at.2 m]; exact w.2 i⟩
theorem LcM.map {scope : Scope} {vs js : List Nat} {x : PyData} {ρt : Env'} {P : Option PyData → Env' → Prop} (hj : ∀ j ∈ js, j ∈ vs) (h1 : Blk X scope fun Y => DG Y ρ tg x js ρt) (h2 : Blk X scope fun Y => EM Y ρt elt fun r ρe => ∃ z, r = .d z ∧ P (some z) ρe) : LcM X scope vs tg [] elt x ρ P :=
  ⟨ρt, js, hj, h1, fun s H C cl fp F Z B H σ Q k q => ⟨_, pts_nil, q true ρt B H (fun _ => h2) (fun e => nomatch e) k (Sub.refl B)⟩⟩
theorem LcM.iff {scope : Scope} {vs js : List Nat} {x : PyData} {ρt : Env'} {P : Option PyData → Env' → Prop} {C : Bool → Env' → Prop} (hj : ∀ j ∈ js, j ∈ vs) (h1 : Blk X scope fun Y => DG Y ρ tg x js ρt) (ht : Blk X scope fun Y => TM Y ρt c C)
    (h2 : ∀ ρa, C true ρa → Blk X scope fun Y => EM Y ρa elt fun r ρe => ∃ z, r = .d z ∧ P (some z) ρe) (h3 : ∀ ρa, C false ρa → P none ρa) : LcM X scope vs tg [c] elt x ρ P :=
  ⟨ρt, js, hj, h1, fun s H C cl fp F Z B H σ Q k q => ⟨_, pts_one pt_s, ht s _ C cl fp F Z B H σ Q k fun b ρ' B' H' hc k' x => q b ρ' B' H' (fun e => h2 ρ' (by subst e; exact hc)) (fun e => h3 ρ' (by subst e; exact hc)) k' x⟩⟩
/-- [elt for tg in iter if ..]: between the turns a kind of environments, known by a state s -/
theorem lm_lc {S : Type} {scope : Scope} {own : List (Str × Nat)} {P : List PyData → Env' → Prop} (E : S → Env') (I : Nat → S → List PyData → Prop) {s0 : S} (hc : X.calm = true) (hN : X.N.Nodup) (ok : BlkOk X.N X.env.scope scope own) (hi : DI X ρ tg iter xs (E s0)) (hv : ∀ s, ∀ j ∈ own.map (·.2), gS (E s) j = .un) (hl : ∀ s, (E s).length = (E s0).length) (h0 : I 0 s0 [])
    (turn : ∀ (i : Nat) (x : PyData) (ys : List PyData) (s : S), xs[i]? = some x → I i s ys → LcM X scope (own.map (·.2)) tg ifs elt x (E s) fun y ρe => ∃ s', Wk ρe (E s') ∧ I (i + 1) s' (ys ++ y.toList))
    (go : ∀ ys s, I xs.length s ys → P ys (E s)) (hz : xs.length ≤ sizeLine) (hs : ∀ x, foldedSetIterable iter X.env x = pure x := by intro _; rfl) : LM X ρ (.ListComp elt [⟨tg, iter, ifs, 0⟩] scope pos) P := fun F Z B H σ Q k q =>
  ⟨_, pe_lc hc hN pi_s ok pg_b pts_b pe_b hs, lm_go hi (fun i ys ρa => ∃ s, ρa = E s ∧ I i s ys) ⟨E s0, wipeE_wk (hv s0), s0, rfl, h0⟩ (fun i x ys ρa hx ⟨s, e, j⟩ => by
    subst e
    obtain ⟨ρt, js, t1, t2, t3⟩ := turn i x ys s hx j
    refine ⟨ρt, js, t1, t2, fun s1 H1 C cl fp F Z B H σ Q k q => t3 s1 H1 C cl fp F Z B H σ Q k fun b ρa B' H' u1 u2 => q b ρa B' H' (fun e s2 H2 C2 cl2 fp2 => (u1 e s2 H2 C2 cl2 fp2).mono fun r ρe ⟨z, e, s', w, j'⟩ => ⟨z, e, E s', wipe_wk w (hv s'), s', rfl, j'⟩) fun e => ?_⟩
    obtain ⟨s', w, j'⟩ := u2 e
    exact ⟨E s', wipe_wk w (hv s'), s', rfl, j'⟩) (fun ys ρn ⟨s, e, j⟩ => by subst e; exact ⟨E s, mrg_un (hl s) (hv s), go ys s j⟩) hz k q⟩
theorem sm_setLc {S : Type} {i : Nat} {y : Str} {py spos : Pos} {scope : Scope} {own : List (Str × Nat)} (E : S → Env') (I : Nat → S → List PyData → Prop) {s0 : S} (hc : X.calm = true) (hN : X.N.Nodup) (ok : BlkOk X.N X.env.scope scope own) (hi : DI X ρ tg iter xs (E s0)) (hv : ∀ s, ∀ j ∈ own.map (·.2), gS (E s) j = .un) (hl : ∀ s, (E s).length = (E s0).length) (h0 : I 0 s0 [])
    (turn : ∀ (i : Nat) (x : PyData) (ys : List PyData) (s : S), xs[i]? = some x → I i s ys → LcM X scope (own.map (·.2)) tg ifs elt x (E s) fun y ρe => ∃ s', Wk ρe (E s') ∧ I (i + 1) s' (ys ++ y.toList))
    (go : ∀ ys s, I xs.length s ys → i < (E s).length ∧ P (.nx ((E s).set i (.o (.lst ys))))) (hz : xs.length ≤ sizeLine) (hsw : swapsWith (.ListComp elt [⟨tg, iter, ifs, 0⟩] scope pos) (some (.Name y py)) spos.line X.env = pure true := by rfl) (hy : X.N[i]? = some y := by rfl) (hyl : X.env.scope.names.lookup y = some .local := by rfl) (hs : ∀ x, foldedSetIterable iter X.env x = pure x := by intro _; rfl) :
    SM X ρ (.Assign [.Name y py] (.ListComp elt [⟨tg, iter, ifs, 0⟩] scope pos) spos) P := fun F Z B H σ D k q =>
  ⟨_, ps_setLc hc hN hy hyl hsw pi_s ok pg_b pts_b pe_b hs, lm_go (P := fun ys ρ' => i < ρ'.length ∧ P (.nx (ρ'.set i (.o (.lst ys))))) hi (fun i ys ρa => ∃ s, ρa = E s ∧ I i s ys) ⟨E s0, wipeE_wk (hv s0), s0, rfl, h0⟩ (fun i x ys ρa hx ⟨s, e, j⟩ => by
    subst e
    obtain ⟨ρt, js, t1, t2, t3⟩ := turn i x ys s hx j
    refine ⟨ρt, js, t1, t2, fun s1 H1 C cl fp F Z B H σ Q k q => t3 s1 H1 C cl fp F Z B H σ Q k fun b ρa B' H' u1 u2 => q b ρa B' H' (fun e s2 H2 C2 cl2 fp2 => (u1 e s2 H2 C2 cl2 fp2).mono fun r ρe ⟨z, e, s', w, j'⟩ => ⟨z, e, E s', wipe_wk w (hv s'), s', rfl, j'⟩) fun e => ?_⟩
    obtain ⟨s', w, j'⟩ := u2 e
    exact ⟨E s', wipe_wk w (hv s'), s', rfl, j'⟩) (fun ys ρn ⟨s, e, j⟩ => by subst e; exact ⟨E s, mrg_un (hl s) (hv s), go ys s j⟩) hz k fun ys ρ' p us B' H' hp k' x n hq t => q _ hp.2 B' H' _ (k'.take n hp.1 (.lst hq t)) x⟩
end
/-! ### contracts -/
/-- a def that draws: it may give whatever post allows -/
def spX (K : PySem.W.Frag) (Φ : List PyData → (PyData → Prop) → Prop) : Sp := fun vs H Q _ => ∃ F Z B a st ds post, Φ ds post ∧ Ok K F Z B H (vs.map some) (.o (.src a st) :: ds.map Sl.d) ∧
  ∀ v d st' B' H', post d → Ok K F Z B' H' (vs.map some) (.o (.src a st') :: ds.map Sl.d) → Sub B B' → Dp K B' v d → Q v H'
section
variable {P : Program} {w : World} {K : PySem.W.Frag} {mg : Str → Option Value} {base : Heap} {x qual : Str} {st : Stmt} {f : Addr} {fd : FuncData} {N ps : List Str} {k : Nat}
theorem FnG.loose {Ψ : Src → List PyData → PyData → Src → Prop} {Φ : List PyData → (PyData → Prop) → Prop} (Fn : FnG P w K mg base k f fd ps (spS K Ψ)) (h : ∀ st ds post, Φ ds post → ∃ d st', Ψ st ds d st' ∧ post d) (len : ∀ ds post, Φ ds post → ds.length + 1 = ps.length) : FnG P w K mg base k f fd ps (spX K Φ) := by
  have weak : ∀ {vs H Q E}, spX K Φ vs H Q E → spS K Ψ vs H Q E := by
    rintro vs H Q E ⟨F, Z, B, a, st, ds, post, hΦ, k, q⟩
    obtain ⟨d, st', h1, h2⟩ := h st ds post hΦ
    exact ⟨F, Z, B, a, st, ds, d, st', h1, k, fun v B' H' => q v d st' B' H' h2⟩
  exact ⟨fun vs H Q E q => Fn.len vs H Q E (weak q), fun A outer s H args us vs Q E g r e b v q => Fn.run A outer s H args us vs Q E g r e b v (weak q)⟩
theorem fnX_of {Φ : List PyData → (PyData → Prop) → Prop} (Fn : Fun K x qual st f fd) (S : FnScope N ps (defScope st)) (len : ∀ ds post, Φ ds post → ds.length + 1 = ps.length)
    (body : ∀ (cdv : Value) (A : Around) (outer : List Env) (s : Shared) (H : Hp) (E : XK) (a : Addr) (sr : Src) (ds : List PyData) (post : PyData → Prop), A.guards = some [] → Room k (A.deeper (envOfC qual (defScope st) s.heap.objs.size f cdv)) → Φ ds post →
      DM (cxOf L2.CX0 P w K mg base N qual (defScope st) f cdv A outer s H E).nox (.o (.src a sr) :: (ds.map Sl.d ++ List.replicate (N.length - (ds.length + 1)) .un)) (defBody st) fun o => ∃ d ρ' sr', o = .rt d ρ' ∧ post d ∧ ρ'[0]? = some (.o (.src a sr'))) :
    FnG P w K mg base (k + 1) f fd ps (spX K Φ) := by
  refine fnG_of Fn S ?_ ?_
  · rintro vs H Q E ⟨F, Z, B, a, sr, ds, post, h, k, _⟩
    have e := k.len
    rw [List.length_map, List.length_cons, List.length_map] at e
    rw [e, len _ _ h]
  · rintro cdv A outer s H vs Q E hg hr ⟨F, Z, B, a, sr, ds, post, h, k, q⟩
    have hb := body cdv A outer s H E a sr ds post hg hr h
    have e := k.len
    rw [List.length_map, List.length_cons, List.length_map] at e
    have kk := k.app (N.length - (ds.length + 1))
    refine ⟨_, pb_s, hb F Z B H _ _ (by unfold L2.start; rw [e]; exact kk) ?_⟩
    rintro o ⟨d, ρ', sr', rfl, hp, h0⟩ v B' H' σ' k' y dv
    cases vs with
    | nil => cases e
    | cons v0 vs =>
      obtain ⟨own, h1, h2, h3⟩ := k.own
      have rd : DpAll K B vs ds := by
        refine dpAll_of (H := H) (own := fun i => own (i + 1)) vs ds (by simpa using e) fun i => ?_
        have q := h3 (i + 1)
        rw [List.map_cons, gV_consS, gS_consS] at q
        exact q
      have e0 : v0 = .ref a := by
        have q := h3 0
        rw [List.map_cons, gV_cons0, gS_cons0] at q
        generalize own 0 = as at q
        cases q with | o q => cases q; rfl
      obtain ⟨v', as, g1, g2, g3⟩ := k'.ob (gS_some h0)
      have e1 : v' = .ref a := by cases g2; rfl
      subst e0 e1
      exact q v d sr' B' H' hp (okS k'.exF k'.exB k'.z g2 g3 (dpAll_mono y rd)) y dv
end
section
variable {X : Cx} {ρ ρ1 ρ2 : Env'} {e : Expr} {es : List Expr} {pos p : Pos} {k : Nat} {f : Addr} {fd : FuncData} {ps : List Str} {x : Str} {ds : List PyData}
/-- a call of it -/
theorem em_callA {Φ : List PyData → (PyData → Prop) → Prop} {i : Nat} {P : R → Env' → Prop} (Fn : FnG X.prog X.w X.K X.mg X.base k f fd ps (spX X.K Φ)) (hgd : X.A.guards = some []) (hr : Room k X.A) (hm : X.mg x = some (.ref f)) (hk : PySem.W.keepIn X.K (.ref f) = true) (hb : Binds X.K fd ps [])
    (h0 : DE X ρ e (.o i) ρ1) (h : AM X ρ1 es fun ds ρ2 => ∃ post sa sr, Φ ds post ∧ ρ2[i]? = some (.o (.src sa sr)) ∧ ∀ d sr', post d → P (.d d) (ρ2.set i (.o (.src sa sr')))) (hg : Gl X x := by rfl) (hdb : (x == ("__debug__" : Str)) = false := by decide) (he : starEach (e :: es) X.env = (false, eval e X.env) :: starEach es X.env := by rfl)
    (hpl : (backTo pos (starEach es X.env)).any (·.1) = false := by rfl) : EM X ρ (.Call (.Name x p) (e :: es) [] pos) P := fun F Z B H σ Q k' q =>
  ⟨_, pe_callG Fn hgd hr hg hm hk hb (pa_cons pe_s pa_s he) hdb he hpl, h0 F Z B H σ _ k' fun v0 B0 H0 k0 x0 w0 => h F Z B0 H0 σ _ k0 fun ds ρ2 vs B1 H1 hp k1 x1 t => by
    obtain ⟨post, sa, sr, hΦ, hs, hp⟩ := hp
    show spX X.K Φ ((v0 :: vs) ++ []) H1 Q L2.E0
    rw [List.append_nil]
    obtain ⟨v', as, g1, g2, g3⟩ := k1.ob (gS_some hs)
    have w' : gV σ i = some v0 := w0
    rw [w'] at g1
    cases g1
    have eas := g2
    cases g2 with
    | @src _ l _ n1 n2 n3 =>
    have fa := g3 sa List.mem_cons_self
    have fl := g3 l (List.mem_cons_of_mem _ List.mem_cons_self)
    let F' : Hp := fun b => if b = sa ∨ b = l then none else H1 b
    have F'n : ∀ b, (b = sa ∨ b = l) → F' b = none := fun b hb => if_pos hb
    have F'o : ∀ b, ¬ (b = sa ∨ b = l) → F' b = H1 b := fun b hb => if_neg hb
    have FF : Sub F F' := fun b o hb => by
      rw [F'o b fun z => ?_]
      · exact k1.exF b o hb
      · rcases z with z | z
        · rw [z, fa.1] at hb; cases hb
        · rw [z, fl.1] at hb; cases hb
    have F'H : Sub F' H1 := fun b o hb => by
      by_cases z : b = sa ∨ b = l
      · rw [F'n b z] at hb; cases hb
      · rw [F'o b z] at hb; exact hb
    refine ⟨F', fun b => (H1 b ≠ none ∧ B1 b = none) ∧ ¬ (b = sa ∨ b = l), B1, sa, sr, ds, post, hΦ, okS F'H k1.exB (fun b hb => ⟨hb.1.2, Option.ne_none_iff_exists'.mp hb.1.1⟩) eas (fun b hb => ?_) t, fun v d sr' B2 H2 hd k2 y w => ?_⟩
    · have hb' : b = sa ∨ b = l := by simpa using hb
      exact ⟨F'n b hb', (g3 b hb).2.1, fun z => z.2 hb'⟩
    · obtain ⟨v2, as2, u1, u2, u3⟩ := k2.ob (i := 0) (b := .src sa sr') rfl
      obtain ⟨own, o1, o2, o3⟩ := k1.own
      have oi : own i = [sa, l] := by
        have qq := o3 i
        rw [gS_some hs, w'] at qq
        generalize own i = os at qq
        cases qq with
        | o qq => exact ObAt.uni qq eas fun _ _ => rfl
      have hi : i < ρ2.length := (List.getElem?_eq_some_iff.mp hs).1
      have ev : v2 = .ref sa := by cases u2; rfl
      subst ev
      have zz : ∀ b, b ∉ [sa, l] → (∃ o, H1 b = some o) → B1 b = none → B2 b = none ∧ H2 b = H1 b := fun b hb ⟨o, ho⟩ hb1 => by
        have nb : ¬ (b = sa ∨ b = l) := by simpa using hb
        refine ⟨(k2.z b ⟨⟨by rw [ho]; simp, hb1⟩, nb⟩).1, ?_⟩
        rw [ho]
        exact k2.exF b o (by rw [F'o b nb]; exact ho)
      refine q _ _ v B2 H2 (hp d sr' hd) ⟨FF.trans k2.exF, k2.exB, fun b hb => ?_, by simp [k1.len], fun j => if j = i then as2 else own j, fun j b hb => ?_, fun j m b hb hb' => ?_, fun j => ?_⟩ ((x0.trans x1).trans y) w
      · obtain ⟨q1, q2⟩ := k1.z b hb
        have nb : b ∉ [sa, l] := fun m => (g3 b m).2.2 hb
        obtain ⟨q3, q4⟩ := zz b nb q2 q1
        obtain ⟨o, ho⟩ := q2
        exact ⟨q3, o, q4.trans ho⟩
      · dsimp only at hb
        split at hb
        · obtain ⟨t1, t2, t3⟩ := u3 b hb
          refine ⟨FF.none t1, t2, fun hz => ?_⟩
          obtain ⟨q1, q2⟩ := k1.z b hz
          have nb : b ∉ [sa, l] := fun m => (g3 b m).2.2 hz
          exact t3 ⟨⟨by obtain ⟨o, ho⟩ := q2; rw [ho]; simp, q1⟩, by simpa using nb⟩
        · rename_i nj
          obtain ⟨t1, t2, t3⟩ := o1 j b hb
          have nb : b ∉ [sa, l] := fun m => nj (o2 j i b hb (by rw [oi]; exact m))
          exact ⟨t1, (zz b nb ((o3 j).live b hb) t2).1, t3⟩
      · have cross : ∀ {j : Nat}, j ≠ i → b ∈ own j → b ∉ as2 := fun {j} nj h1 h2 => by
          have nb : b ∉ [sa, l] := fun m => nj (o2 j i b h1 (by rw [oi]; exact m))
          obtain ⟨o, ho⟩ := (o3 j).live b h1
          exact (u3 b h2).2.2 ⟨⟨by rw [ho]; simp, (o1 j b h1).2.1⟩, by simpa using nb⟩
        dsimp only at hb hb'
        by_cases ej : j = i
        · by_cases em : m = i
          · rw [ej, em]
          · rw [if_pos ej] at hb; rw [if_neg em] at hb'
            exact absurd hb (cross em hb')
        · by_cases em : m = i
          · rw [if_neg ej] at hb; rw [if_pos em] at hb'
            exact absurd hb' (cross ej hb)
          · rw [if_neg ej] at hb; rw [if_neg em] at hb'
            exact o2 j m b hb hb'
      · rw [gS_set]
        by_cases ej : j = i
        · subst ej
          simp only [hi, and_true, if_true]
          rw [w']; exact .o u2
        · simp only [ej, false_and, if_false]
          refine (o3 j).mono y fun b hb => ?_
          have nb : b ∉ [sa, l] := fun m => ej (o2 j i b hb (by rw [oi]; exact m))
          exact (zz b nb ((o3 j).live b hb) (o1 j b hb).2.1).2⟩
theorem em_callX {Φ : List PyData → (PyData → Prop) → Prop} {i : Nat} {P : R → Env' → Prop} {post : PyData → Prop} {sa : Addr} {sr : Src} (Fn : FnG X.prog X.w X.K X.mg X.base k f fd ps (spX X.K Φ)) (hgd : X.A.guards = some []) (hr : Room k X.A) (hm : X.mg x = some (.ref f)) (hk : PySem.W.keepIn X.K (.ref f) = true) (hb : Binds X.K fd ps [])
    (hΦ : Φ ds post) (h0 : DE X ρ e (.o i) ρ1) (h : DA X ρ1 es ds ρ2) (q : ∀ d sr', post d → P (.d d) (ρ2.set i (.o (.src sa sr')))) (hs : ρ2[i]? = some (.o (.src sa sr)) := by rfl) (hg : Gl X x := by rfl) (hdb : (x == ("__debug__" : Str)) = false := by decide) (he : starEach (e :: es) X.env = (false, eval e X.env) :: starEach es X.env := by rfl)
    (hpl : (backTo pos (starEach es X.env)).any (·.1) = false := by rfl) : EM X ρ (.Call (.Name x p) (e :: es) [] pos) P :=
  em_callA Fn hgd hr hm hk hb h0 (am_of h ⟨post, sa, sr, hΦ, hs, q⟩) hg hdb he hpl
end
end G

set_option Elab.async false
set_option linter.all false
set_option maxRecDepth 100000
set_option maxHeartbeats 4000000
/- webs called otherwise: plain -/
namespace G
open PySem L2 PySem.Spec PyProof.Rows
def gP (p : List Int) (q : Int × Int) : Int × Int := (p.getD q.1.toNat 0, p.getD q.2.toNat 0)
def calC (p c : List Int) : Nat → List Int
  | 0 => List.replicate c.length 0
  | k + 1 => (calC p c k).set (p.getD k 0).toNat (c.getD k 0)
theorem calC_len (p c : List Int) : ∀ k : Nat, (calC p c k).length = c.length
  | 0 => by simp [calC]
  | k + 1 => by unfold calC; rw [List.length_set, calC_len p c k]
theorem calC_in (p c : List Int) (h : ∀ z ∈ c, 0 ≤ z ∧ z < 10) : ∀ k : Nat, ∀ z ∈ calC p c k, 0 ≤ z ∧ z < 10
  | 0, z, hz => by
    rw [List.eq_of_mem_replicate hz]; decide
  | k + 1, z, hz => by
    rcases List.mem_or_eq_of_mem_set hz with q | q
    · exact calC_in p c h k z q
    · rw [q, List.getD_eq_getElem?_getD]
      cases e : c[k]? with
      | none => exact ⟨by decide, by decide⟩
      | some v => exact h v (List.mem_of_getElem? e)
theorem permAt {n : Nat} {p : List Int} (h : p.Perm (names n)) {x : Int} (hx : x ∈ names n) : p.getD x.toNat 0 ∈ names n := by
  obtain ⟨h1, h2⟩ := mem_names.mp hx
  have hl : p.length = n := by rw [h.length_eq, names_len]
  rw [List.getD_eq_getElem?_getD, List.getElem?_eq_getElem (by omega)]
  exact h.mem_iff.mp (List.getElem_mem _)
end G

set_option Elab.async false
set_option linter.all false
set_option maxRecDepth 100000
set_option maxHeartbeats 4000000
/- the source; defs whose way is one of several; more tests -/
namespace G
open PySem L2 PySem.Spec PyProof.Rows
section
variable {P : Program} {w : World} {K : PySem.W.Frag} {mg : Str → Option Value} {base : Heap} {x qual : Str} {st : Stmt} {f : Addr} {fd : FuncData} {N ps : List Str} {k : Nat}
/-- a def of data, its way one of several -/
theorem fnM_of {Ψ : List PyData → PyData → Prop} (Fn : Fun K x qual st f fd) (S : FnScope N ps (defScope st)) (len : ∀ ds d, Ψ ds d → ds.length = ps.length)
    (body : ∀ (cdv : Value) (A : Around) (outer : List Env) (s : Shared) (H : Hp) (E : XK) (ds : List PyData) (d : PyData), A.guards = some [] → Room k (A.deeper (envOfC qual (defScope st) s.heap.objs.size f cdv)) → Ψ ds d →
      DM (cxOf L2.CX0 P w K mg base N qual (defScope st) f cdv A outer s H E).nox (ds.map Sl.d ++ List.replicate (N.length - ds.length) .un) (defBody st) fun o => ∃ ρ', o = .rt d ρ') :
    FnG P w K mg base (k + 1) f fd ps (spP K Ψ) := by
  refine fnG_of Fn S ?_ ?_
  · rintro vs H Q E ⟨F, Z, B, ds, d, h, k, _⟩
    have e := k.len
    rw [List.length_map, List.length_map] at e
    rw [e, len ds d h]
  · rintro cdv A outer s H vs Q E hg hr ⟨F, Z, B, ds, d, h, k, q⟩
    have hb := body cdv A outer s H E ds d hg hr h
    have e := k.len
    rw [List.length_map, List.length_map] at e
    have kk := k.app (N.length - ds.length)
    refine ⟨_, pb_s, hb F Z B H _ _ (by unfold L2.start; rw [e]; exact kk) ?_⟩
    rintro o ⟨ρ', rfl⟩ v B' H' σ' k' y dv
    refine q v B' H' (okD k'.exF k'.exB k'.z ?_) y dv
    -- the arguments read as before
    have rd : DpAll K B vs ds := by
      have all : ∀ (vs : List V) (ds : List PyData), vs.length = ds.length → (∀ i, SlAt K B H (gV (vs.map some) i) [] (gS (ds.map Sl.d) i) ∨ ∃ as, SlAt K B H (gV (vs.map some) i) as (gS (ds.map Sl.d) i)) → DpAll K B vs ds := by
        intro vs
        induction vs with
        | nil => intro ds hl _; cases ds with | nil => exact .nil | cons _ _ => cases hl
        | cons v vs ih =>
          intro ds hl hh
          cases ds with
          | nil => cases hl
          | cons d ds =>
            refine .cons ?_ (ih ds (by simpa using hl) fun i => ?_)
            · rcases hh 0 with q | ⟨as, q⟩
              · cases q with | d q => exact q
              · cases q with | d q => exact q
            · have q := hh (i + 1)
              rw [List.map_cons, List.map_cons, gV_consS, gS_consS] at q
              exact q
      obtain ⟨own, _, _, h3⟩ := k.own
      exact all vs ds e fun i => .inr ⟨own i, h3 i⟩
    exact dpAll_mono y rd
end
section
variable {X : Cx} {ρ ρ' ρ1 ρ2 ρ3 ρ4 : Env'} {a b c e e1 e2 e3 e4 : Expr} {es : List Expr} {pos p p1 p2 p3 : Pos} {i : Nat} {sa : Addr} {st : Src} {j j' : Option Str}
theorem dm_setSrc {x y : Str} {k : Nat} {f : Addr} {fd : FuncData} {ps : List Str} {ds : List PyData} {rest : List Stmt} {P : O → Prop} {s0 : Sl} {pos' : Pos} {Φ : List PyData → Src → Prop} (Fn : FnG X.prog X.w X.K X.mg X.base k f fd ps (spN X.K Φ)) (hgd : X.A.guards = some []) (hr : Room k X.A) (hm : X.mg x = some (.ref f)) (hk : PySem.W.keepIn X.K (.ref f) = true) (hb : Binds X.K fd ps [])
    (hΦ : Φ ds st) (hN : X.N.Nodup) (h : DA X ρ (e :: es) ds ρ1) (t : ∀ a, DM X (ρ1.set i (.o (.src a st))) rest P) (hr1 : ρ1[i]? = some s0 := by rfl) (hi : X.N[i]? = some y := by rfl) (hg : Gl X x := by rfl) (hdb : (x == ("__debug__" : Str)) = false := by decide) (he : starEach (e :: es) X.env = (false, eval e X.env) :: starEach es X.env := by rfl)
    (hpl : (backTo p (starEach es X.env)).any (·.1) = false := by rfl) (hx : Loc X.env.scope y := by first | exact Or.inl rfl | exact Or.inr rfl)
    (hsw : swapsWith (.Call (.Name x p1) (e :: es) [] p) (some (.Name y pos')) pos.line X.env = pure false := by rfl) (hf : X.fn y = true ∨ X.env.scope.names.lookup y = some .local := by first | exact .inl rfl | exact .inr rfl) :
    DM X ρ (.Assign [.Name y pos'] (.Call (.Name x p1) (e :: es) [] p) pos :: rest) P := fun F Z B H σ D k' q =>
  ⟨_, pss_cons (ps_set hN hi hx (pe_callG Fn hgd hr hg hm hk hb pa_s hdb he hpl) hsw hf) pb_s, h F Z B H σ _ k' fun vs B1 H1 k1 x1 tt => by
    show spN X.K Φ (vs ++ []) H1 _ L2.E0
    rw [List.append_nil]
    refine ⟨H1, fun b => H1 b ≠ none ∧ B1 b = none, B1, ds, st, hΦ, okD (Sub.refl H1) k1.exB (fun b hb => ⟨hb.2, Option.ne_none_iff_exists'.mp hb.1⟩) tt, fun a l B2 H2 k2 y n1 n2 ob => ?_⟩
    have k3 := k1.grow y k2.exF k2.exB fun b hb hb' => (k2.z b ⟨hb, hb'⟩).1
    have fr : ∀ {c : Addr}, H1 c = none → H2 c ≠ none → B2 c = none → New X.K F Z B2 H2 σ ρ1 c := fun {c} h1 h2 h3 => by
      obtain ⟨z1, z2, z3⟩ := k1.fresh h1
      refine ⟨z1, h3, z3, fun j b v as g1 g2 g3 m => ?_⟩
      obtain ⟨v', as', f1, f2, f3⟩ := k1.ob g1
      rw [g2] at f1
      cases f1
      have e : as = as' := ObAt.uni g3 f2 fun d hd => by
        obtain ⟨o, ho⟩ := f2.live d hd
        rw [ho, k2.exF d o ho]
      rw [e] at m
      obtain ⟨o, ho⟩ := f2.live _ m
      rw [h1] at ho; cases ho
    have na := fr n1.f (by obtain ⟨o, ho⟩ := ob.live a List.mem_cons_self; rw [ho]; simp) n1.b
    have nl := fr n2.f (by obtain ⟨o, ho⟩ := ob.live l (List.mem_cons_of_mem _ List.mem_cons_self); rw [ho]; simp) n2.b
    refine t a F Z B2 H2 _ D (k3.setO (List.getElem?_eq_some_iff.mp hr1).1 ob (fun b hb => ?_) fun own h3 _ j _ b hb => ?_) (fun o ho => (q o ho).sub (x1.trans y))
    · rcases (show b = a ∨ b = l by simpa using hb) with z | z
      · subst z; exact ⟨na.f, na.b, na.z⟩
      · subst z; exact ⟨nl.f, nl.b, nl.z⟩
    · rcases (show b = a ∨ b = l by simpa using hb) with z | z
      · subst z; exact na.not h3 j
      · subst z; exact nl.not h3 j⟩
end
section
variable {X : Cx} {ρ ρ' ρ1 ρ2 ρ3 : Env'} {a b c e elt tg iter : Expr} {es ifs : List Expr} {r r1 r2 : R} {pos p : Pos} {st : Stmt} {rest sts body as bs : List Stmt} {o : O} {xs ds : List PyData} {d : PyData} {P : O → Prop}
theorem WM.tm {C : Bool → Env' → Prop} (h : WM X ρ a C) : TM X ρ a C := fun F Z B H σ Q k q => ⟨_, pw_s.pt, h F Z B H σ Q k q⟩
theorem em_ifE {x : Bool} {P : R → Env' → Prop} (h : DT X ρ c x ρ1) (h1 : x = true → EM X ρ1 a P) (h2 : x = false → EM X ρ1 b P) : EM X ρ (.IfExp c a b pos) P := fun F Z B H σ Q k q =>
  ⟨_, pe_ifExp pt_s pe_s pe_s, h F Z B H σ _ k fun B1 H1 k1 x1 => by
    cases x with
    | true =>
      rw [if_pos rfl]
      exact h1 rfl F Z B1 H1 σ Q k1 fun r ρ2 v B2 H2 hp k2 x2 => q r ρ2 v B2 H2 hp k2 (x1.trans x2)
    | false =>
      rw [if_neg (by decide)]
      exact h2 rfl F Z B1 H1 σ Q k1 fun r ρ2 v B2 H2 hp k2 x2 => q r ρ2 v B2 H2 hp k2 (x1.trans x2)⟩
theorem em_ifM {C : Bool → Env' → Prop} {P : R → Env' → Prop} (h : TM X ρ c C) (h1 : ∀ ρ1, C true ρ1 → EM X ρ1 a P) (h2 : ∀ ρ1, C false ρ1 → EM X ρ1 b P) : EM X ρ (.IfExp c a b pos) P := fun F Z B H σ Q k q =>
  ⟨_, pe_ifExp pt_s pe_s pe_s, h F Z B H σ _ k fun x ρ1 B1 H1 hc k1 x1 => by
    cases x with
    | true =>
      rw [if_pos rfl]
      exact h1 ρ1 hc F Z B1 H1 σ Q k1 fun r ρ2 v B2 H2 hp k2 x2 => q r ρ2 v B2 H2 hp k2 (x1.trans x2)
    | false =>
      rw [if_neg (by decide)]
      exact h2 ρ1 hc F Z B1 H1 σ Q k1 fun r ρ2 v B2 H2 hp k2 x2 => q r ρ2 v B2 H2 hp k2 (x1.trans x2)⟩
theorem de_gt {i j : Int} (ha : DE X ρ a (.d (.int i)) ρ1) (hb : DE X ρ1 b (.d (.int j)) ρ2) : DE X ρ (.Compare a [.Gt] [b] pos) (.d (.bool (decide (j < i)))) ρ2 := de_cmp op_gt (od_I0 fun _ _ => .bl _) (nomark b) ha hb
theorem tm_ltR {i : Int} {C : Bool → Env' → Prop} (ha : EM X ρ a fun r ρ1 => ∃ j, r = .d (.int j) ∧ DE X ρ1 b (.d (.int i)) ρ1 ∧ C (decide (j < i)) ρ1) : TM X ρ (.Compare a [.Lt] [b] pos) C :=
  tm_cmp op_lt (ha.mono fun r ρ1 ⟨j, e, hb, hc⟩ => em_of hb ⟨_, e ▸ od_I0 fun _ _ => .bl _, hc⟩) (nomark b)
theorem tm_eqR {i : Int} {C : Bool → Env' → Prop} (ha : EM X ρ a fun r ρ1 => ∃ j, r = .d (.int j) ∧ DE X ρ1 b (.d (.int i)) ρ1 ∧ C (decide (j = i)) ρ1) : TM X ρ (.Compare a [.Eq] [b] pos) C :=
  tm_cmp op_eq (ha.mono fun r ρ1 ⟨j, e, hb, hc⟩ => em_of hb ⟨_, e ▸ od_eqI, hc⟩) (nomark b)
end
/-- some order of things -/
def psMixX (ds : List PyData) (post : PyData → Prop) : Prop := ∃ (xs : List PyData) (cd : PyData), (cd = .list xs ∨ cd = .tuple xs) ∧ xs.length ≤ 1000 ∧ ds = [cd] ∧ post = fun d => ∃ ys, ys.Perm xs ∧ d = .list ys
/-- some member -/
def psOfX (ds : List PyData) (post : PyData → Prop) : Prop := ∃ xs : List PyData, 1 ≤ xs.length ∧ xs.length ≤ 1000 ∧ ds = [.list xs] ∧ post = fun d => d ∈ xs
/-- a number below -/
def psPickX (ds : List PyData) (post : PyData → Prop) : Prop := ∃ many : Int, 1 ≤ many ∧ many < 1000000 ∧ ds = [.int many] ∧ post = fun d => ∃ i : Int, 0 ≤ i ∧ i < many ∧ d = .int i
/-- lists of whole numbers, mixed -/
theorem perm_ints {ys : List PyData} {l : List Int} (h : ys.Perm (l.map .int)) : ∃ p : List Int, p.Perm l ∧ ys = p.map .int := by
  have all : ∀ {ys : List PyData}, (∀ y ∈ ys, ∃ i : Int, y = .int i) → ∃ p : List Int, ys = p.map .int := by
    intro ys
    induction ys with
    | nil => exact fun _ => ⟨[], rfl⟩
    | cons y ys ih =>
      intro h
      obtain ⟨i, rfl⟩ := h y List.mem_cons_self
      obtain ⟨p, rfl⟩ := ih fun z hz => h z (List.mem_cons_of_mem _ hz)
      exact ⟨i :: p, rfl⟩
  obtain ⟨p, rfl⟩ := all fun y hy => by
    obtain ⟨i, _, e⟩ := List.mem_map.mp (h.mem_iff.mp hy)
    exact ⟨i, e.symm⟩
  refine ⟨p, ?_, rfl⟩
  have e : ∀ l : List Int, (l.map PyData.int).map (fun d => match d with | .int i => i | _ => 0) = l := fun l => by
    induction l with
    | nil => rfl
    | cons a l ih => simp only [List.map_cons, ih]
  have q := h.map fun d => match d with | .int i => i | _ => 0
  rwa [e, e] at q
end G

set_option Elab.async false
set_option linter.all false
set_option maxRecDepth 100000
set_option maxHeartbeats 4000000
/- (x, y)[::-1] -/
namespace G
open PySem L2 PySem.Spec PyProof.Rows
theorem turned2 {x y : Value} {n : Nat} : ((List.range 2).filterMap fun (k : Nat) => (#[x, y] : Array Value)[((1 : Int) + (k : Int) * (-1)).toNat]?).toArray = #[y, x] := by
  simp [List.range_succ, List.filterMap]
section
variable {prog : Program} {w : World} {A : Around} {E : Value → Shared → Prop} {s : Shared}
theorem sliced_back {sl : Addr} {t : Tok} {Q : Int × Int × Nat → Shared → Prop} (hs : s.heap.IsSliceOf sl .none .none (.int (-1) t)) (h : Q (1, -1, 2) s) : wpAny (model prog w) A (Builtin.Slice.sliceApplied (.ref sl) (pure (2 : Int))) Q E s := by
  obtain ⟨os, hos, hcs, hds⟩ := id hs
  unfold Builtin.Slice.sliceApplied Builtin.Slice.sliceFields
  refine wpAny_bind (wpAny_bind (wpAny_field hos hds (x := .none) rfl (wpAny_bind (wpAny_field hos hds (x := .none) rfl (wpAny_bind (wpAny_field hos hds (x := .int (-1) t) rfl (wpAny_pure ?_)))))))
  refine wpAny_bind (PyProof.Rows.slicePart_int ?_)
  show wpAny _ _ (if ((-1 : Int) == 0) = true then _ else _) _ _ s
  rw [if_neg (by decide)]
  refine wpAny_bind (PyProof.Rows.slicePart_none (wpAny_bind (PyProof.Rows.slicePart_none (wpAny_bind (wpAny_pure ?_)))))
  exact wpAny_pure h
theorem getItem_back {t sl : Addr} {x y : Value} {u : Tok} {Q : Value → Shared → Prop} (ht : IsTup s.heap t #[x, y]) (hs : s.heap.IsSliceOf sl .none .none (.int (-1) u))
    (h : Q (.ref s.heap.objs.size) { s with heap := s.heap.push { cls := .type "tuple", data := .seq #[y, x] } }) : wpAny (model prog w) A (getItem (.ref t) (.ref sl)) Q E s := by
  obtain ⟨os, hos, hcs, hds⟩ := id hs
  have hTs : s.TypeIs (.ref sl) "slice" := ⟨os, hos, hcs⟩
  have htake : sizeOk (.seq #[y, x]) := by show 2 ≤ sizeLine; decide
  unfold getItem
  try with_reducible refine wpAny_holding ?_
  first | refine wpAny_bind (wpAny_pure ?_) | skip
  refine wpAny_bind (wpAny_sequenceKey ht.typeIs (by decide) ?_)
  refine wpAny_bind (wpAny_callSpecial?_slot (name := Str.ofString "__getitem__") ht.typeIs PyProof.Rows.slot_tuple_getitem (wpAny_call_entry PyProof.Rows.slot_tuple_getitem ht.typeIs entry_tuple_getitem ?_ (args_tuple_getitem _ _)))
  show wpAny _ _ (Builtin.Tuple.tupleItemsOf (.ref t) >>= _) _ _ s
  refine wpAny_bind (PyProof.Rows.tupleItemsOf_ ht ?_)
  refine wpAny_bind (wpAny_typeOf hTs ?_)
  rw [if_pos (by decide)]
  refine wpAny_bind (sliced_back hs ?_)
  show wpAny _ _ (if ((1 : Int) == 0 && (-1 : Int) == 1 && (2 : Nat) == 2) = true then _ else _) _ _ s
  rw [if_neg (by decide), turned2 (n := 0)]
  first
    | exact wpAny_bind (m := Builtin.Tuple.tupleExact _) (wpAny_newObj_type (wpAny_pure ⟨_, rfl, wpAny_pure h⟩) htake)
    | exact wpAny_bind (m := Builtin.Tuple.tupleExact _) (wpAny_newObj_type (wpAny_bind (wpAny_pure (wpAny_pure ⟨_, rfl, wpAny_pure h⟩))) htake)
    | exact wpAny_bind (wpAny_bind (m := Builtin.Tuple.tupleExact _) (wpAny_newObj_type (wpAny_pure (wpAny_pure ⟨_, rfl, wpAny_pure h⟩)) htake))
    | exact wpAny_bind (wpAny_bind (m := Builtin.Tuple.tupleExact _) (wpAny_newObj_type (wpAny_pure ⟨_, rfl, wpAny_pure h⟩) htake))
end
section
variable {X : Cx} {ρ ρ1 : Env'} {e : Expr} {k : Nat} {p1 p2 p3 pos : Pos}
theorem pe_backT {te : TE} (he : PE X e te) : PE X (.Subscript e (.Slice none none (some (.UnaryOp .USub (.Constant (.int 1) k p1) p2)) p3) pos) (fun σ H Q => te σ H fun x H1 => ∃ a v u, x = .ref a ∧ SqT X.K H1 a [v, u] ∧ NewT H1 [u, v] Q) := by
  refine ⟨fun pins s σ H Q I h => ?_⟩
  refine Subscript_ (thn (he.run pins s σ H _ I h) fun v s1 q0 => ?_)
  obtain ⟨x, H1, I1, r1, a, v1, v2, ex, hx, q⟩ := q0
  subst ex
  cases r1
  have hst : PO X (some (.UnaryOp .USub (.Constant (.int 1) k p1) p2)) (tPart (tUn (rU fun i => .int (-i)) (tC (.int 1)))) := po_some (pe_un un_neg pe_int)
  refine wpAny_Slice (thn (po_none.run pins s1 σ H1 (fun o H2 => o = none ∧ H2 = H1) I1 ⟨rfl, rfl⟩) fun vl s2 q2 => ?_)
  obtain ⟨l, H2, I2, pl, el, e2⟩ := q2
  subst el e2
  refine thn (po_none.run pins s2 σ H2 (fun o H3 => o = none ∧ H3 = H2) I2 ⟨rfl, rfl⟩) fun vu s3 q3 => ?_
  obtain ⟨u, H3, I3, pu, eu, e3⟩ := q3
  subst eu e3
  refine thn (hst.run pins s3 σ H3 (fun o H4 => o = some (-1) ∧ H4 = H3) I3 ⟨1, rfl, -1, rfl, rfl, rfl⟩) fun vs s4 q4 => ?_
  obtain ⟨o, H4, I4, ps, eo, e4⟩ := q4
  subst eo e4
  have I5 : Inv X pins σ H4 { s4 with heap := s4.heap.push { cls := .type "slice", data := .fields #[vl, vu, vs] } } := I4.kept (t' := s4.toks) fun b ob q => Heap.get?_push_of_some _ q
  obtain ⟨its, r, ht, hz⟩ := I5.tuple hx
  obtain ⟨i1, i2, ei, ra, rb⟩ := vals2 r
  subst ei
  have el : vl = .none := by cases pl; rfl
  have eu : vu = .none := by cases pu; rfl
  have es : ∃ t, vs = .int (-1) t := by cases ps; exact ⟨_, rfl⟩
  obtain ⟨t, rfl⟩ := es
  subst el eu
  show wpAny (model X.prog X.w) X.A (subscriptTail e (.Slice none none (some (.UnaryOp .USub (.Constant (.int 1) k p1) p2)) p3) (.ref a) (.ref s4.heap.objs.size)) (EP X pins σ Q) X.xe { s4 with heap := s4.heap.push { cls := .type "slice", data := .fields #[.none, .none, .int (-1) t] } }
  refine tail_any (ops := [.ref a, .ref s4.heap.objs.size]) ht.typeIs (PyProof.Rows.slot_tuple_getitem.lookup) ?_ (by with_unfolding_all rfl)
  refine getItem_back ht (Heap.IsSliceOf.new _ _ _ _) ?_
  exact inv_newT (s := { s4 with heap := s4.heap.push { cls := .type "slice", data := .fields #[.none, .none, .int (-1) t] } }) (t' := s4.toks) I5 (its := [i2, i1]) (.cons rb (.cons ra .nil)) (by show 2 ≤ sizeLine; decide) (fun _ _ e => Heap.get?_push_of_some _ e) (Nat.le_refl _) (Heap.get?_push_size _ rfl) rfl rfl rfl q
theorem de_backT {x y : PyData} (h : DE X ρ e (.d (.tuple [x, y])) ρ1) : DE X ρ (.Subscript e (.Slice none none (some (.UnaryOp .USub (.Constant (.int 1) k p1) p2)) p3) pos) (.d (.tuple [y, x])) ρ1 := fun F Z B H σ Q kk q =>
  ⟨_, pe_backT pe_s, h F Z B H σ _ kk fun v B1 H1 k1 x1 w => by
    obtain ⟨p, vs, rfl, s, s', t⟩ := tup_at k1 w
    cases t with
    | cons t1 t =>
    cases t with
    | cons t2 t =>
    cases t
    exact ⟨p, _, _, rfl, s, k1.newT (.cons t2 (.cons t1 .nil)) fun v B2 H2 k2 x2 w2 => q v B2 H2 k2 (x1.trans x2) w2⟩⟩
end
end G

set_option Elab.async false
set_option linter.all false
set_option maxRecDepth 100000
set_option maxHeartbeats 4000000
/- draws from the other source, by what they may give; more rules on what may come out in several ways -/
namespace G
open PySem L2 PySem.Spec PyProof.Rows
section
variable {X : Cx} {ρ ρ' ρ1 ρ2 ρ3 : Env'} {a b c e elt tg iter : Expr} {es ifs : List Expr} {r r1 r2 : R} {pos p : Pos} {st : Stmt} {rest sts body as bs : List Stmt} {o : O} {xs ds : List PyData} {d : PyData} {P : O → Prop}
theorem dm_last (h : SM X ρ st fun o => ∃ ρ1 ρ2, o = .nx ρ1 ∧ Wk ρ1 ρ2 ∧ P (.nx ρ2)) : DM X ρ [st] P :=
  dm_seq h (fun ρ3 ⟨_, ρ2, e, w, q⟩ => by cases e; exact dm_end ρ2 q w) fun o ⟨ρ1, _, e, _⟩ n => absurd e (n ρ1)
theorem em_ixL {P : R → Env' → Prop} (ha : DE X ρ a (.d (.list xs)) ρ1) (hb : EM X ρ1 b fun r ρ2 => ∃ i x, r = .d (.int i) ∧ atI xs i = some x ∧ P (.d x) ρ2) (hs : PlainIx b := by intro _ _; rfl) : EM X ρ (.Subscript a b pos) P := fun F Z B H σ Q k q =>
  ⟨_, pe_ix ix_list pe_s pe_s hs, ha F Z B H σ _ k fun v1 B1 H1 k1 x1 w1 => hb F Z B1 H1 σ _ k1 fun r ρ2 v2 B2 H2 hp k2 x2 w2 => by
    obtain ⟨i, x, rfl, hx, hp⟩ := hp
    obtain ⟨p, vs, e, s, t⟩ := (RL.d (ρ := ρ2) (xs := xs)).at k2 (VR.mono x2 w1)
    obtain ⟨v, h1, h2⟩ := atI_dp t hx
    cases w2
    exact ⟨p, vs, i, v, e, rfl, s, h1, q _ _ v B2 H2 hp k2 (x1.trans x2) h2⟩⟩
theorem sm_parL {i j : Nat} {x y : Str} {px py pt : Pos} {kt k2 pt2} (hc : X.calm = true) (hN : X.N.Nodup) (ha : EM X ρ a fun r ρ1 => ∃ d1 ys ρ2, r = .d d1 ∧ DL X ρ1 b ys ρ2 ∧ j < ρ2.length ∧ P (.nx ((ρ2.set j (.o (.lst ys))).set i (.d d1)))) (hi : X.N[i]? = some x := by rfl) (hj : X.N[j]? = some y := by rfl) (hij : i ≠ j := by decide)
    (hx : X.env.scope.names.lookup x = some .local := by rfl) (hy : X.env.scope.names.lookup y = some .local := by rfl)
    (hw : swappedStores [.Tuple [.Name x px, .Name y py] kt pt] (.Tuple [a, b] k2 pt2) X.env = pure (some [x, y]) := by rfl)
    (hs : swapsWithSole [.Tuple [.Name x px, .Name y py] kt pt] (.Tuple [a, b] k2 pt2) pos.line X.env = pure false := by rfl)
    (hs1 : starEach [a, b] X.env = (false, eval a X.env) :: starEach [b] X.env := by rfl) (hs2 : starEach [b] X.env = (false, eval b X.env) :: starEach [] X.env := by rfl) :
    SM X ρ (.Assign [.Tuple [.Name x px, .Name y py] kt pt] (.Tuple [a, b] k2 pt2) pos) P := fun F Z B H σ D k q =>
  ⟨_, ps_par hc hN hi hj hij hx hy (pa_cons pe_s (pa_cons pe_s pa_nil hs2) hs1) hw hs, ha F Z B H σ _ k fun r ρ1 v1 B1 H1 hp k1 x1 w1 => by
    obtain ⟨d1, ys, ρ2, rfl, hb, hjl, hp⟩ := hp
    refine hb F Z B1 H1 σ _ k1 fun p us B2 H2 k2 x2 n2 h2 t2 => ⟨v1, .ref p, rfl, ?_⟩
    rw [List.set_comm _ _ hij]
    exact q _ hp B2 H2 _ ((k2.take n2 hjl (.lst h2 t2)).setD (dp_mono x2 w1)) (x1.trans x2)⟩
/-- xs.append(e), xs a list of our own -/
theorem sm_append {i : Nat} {xs : List PyData} {apos : Pos} (hz : xs.length < 100000) (h0 : DE X ρ a (.o i) ρ1) (h : EM X ρ1 e fun r ρ2 => ∃ y, r = .d y ∧ ρ2[i]? = some (.o (.lst xs)) ∧ P (.nx (ρ2.set i (.o (.lst (xs ++ [y])))))) (hs0 : ρ1[i]? = some (.o (.lst xs)) := by rfl) (hbase : attributeBase a "append" X.env (eval a X.env) = eval a X.env := by rfl)
    (hfew : ((backTo p (starEach [e] X.env)).all (fun x => !x.1) && (backToKw p (keywordEach [] X.env)).all (fun x => x.1.isSome) && decide ([e].length + ([] : List Keyword).length + (if ([] : List Keyword).isEmpty then 0 else 1) < 30)) = true := by rfl)
    (hline : (apos.endLine == p.line) = true := by rfl) (he : starEach [e] X.env = (false, eval e X.env) :: starEach [] X.env := by rfl) (hpl : (backTo p (starEach [] X.env)).any (·.1) = false := by rfl) (hsw : swapsWith (.Call (.Attribute a "append" apos) [e] [] p) none pos.line X.env = pure false := by rfl) :
    SM X ρ (.Expr (.Call (.Attribute a "append" apos) [e] [] p) pos) P := fun F Z B H σ D k q =>
  ⟨_, ps_expr (pe_bm PySem.F.plainAttrs_list PySem.F.slot_list_append PySem.F.type_list_append mt_append pe_s (pa_cons pe_s pa_nil he) hbase hfew hline he hpl) hsw, h0 F Z B H σ _ k fun v B1 H1 k1 x1 w1 => by
    obtain ⟨v', as, g1, g2, _⟩ := k1.ob (gS_some hs0)
    have w' : gV σ i = some v := w1
    rw [w'] at g1
    cases g1
    cases g2 with
    | @lst l us _ hl t =>
    refine ⟨.inl ⟨rfl, us, SqL.of hl⟩, h F Z B1 H1 σ _ k1 fun r ρ2 u B2 H2 hp k2 x2 w2 => ?_⟩
    obtain ⟨y, rfl, hs, hp⟩ := hp
    obtain ⟨v', as, g1, g2, _⟩ := k2.ob (gS_some hs)
    rw [w'] at g1
    cases g1
    cases g2 with
    | @lst _ us2 _ hl2 t2 =>
    refine ⟨l, us2, u, rfl, rfl, hl2, by rw [DpAll.length t2]; exact Nat.lt_trans hz (by decide), ?_⟩
    refine q _ hp B2 _ σ (k2.turn (gS_some hs) w' (.lst hl2 t2) (.lst upd_same (G.DpAll.append t2 (.cons w2 .nil))) fun b hb => ?_) (x1.trans x2)
    rw [upd_ne fun z => hb (by rw [z]; exact List.mem_singleton.mpr rfl)]⟩
/-- a list, and a new one -/
theorem lm_cat {P : List PyData → Env' → Prop} (ha : DE X ρ a (.d (.list xs)) ρ1) (hb : LM X ρ1 b fun ys ρ2 => xs.length + ys.length ≤ 100000 ∧ P (xs ++ ys) ρ2) : LM X ρ (.BinOp a .Add b pos) P := fun F Z B H σ Q k q =>
  ⟨_, pe_op op_catS pe_s pe_s, ha F Z B H σ _ k fun v1 B1 H1 k1 x1 w1 => hb F Z B1 H1 σ _ k1 fun ys ρ2 p us B2 H2 hp k2 x2 n hpp t2 => by
    obtain ⟨pa, vs, ea, sa, ta⟩ := (RL.d (ρ := ρ2) (xs := xs)).at k2 (VR.mono x2 w1)
    have l1 := DpAll.length ta
    have l2 := DpAll.length t2
    exact ⟨pa, p, vs, us, ea, rfl, sa, SqL.of hpp, by rw [l1, l2]; exact Nat.le_trans hp.1 (by decide), fun l hl => q _ _ l _ B2 _ hp.2 (k2.loose hl _) (x1.trans x2) (k2.laid hl _) upd_same (G.DpAll.append ta t2)⟩⟩
end
end G

set_option Elab.async false
set_option linter.all false
set_option maxRecDepth 100000
set_option maxHeartbeats 4000000
/- draws from the source, by what they may give -/
namespace G
open PySem L2 PySem.Spec PyProof.Rows
section
variable {P : Program} {w : World} {K : PySem.W.Frag} {mg : Str → Option Value} {base : Heap}
theorem ok_pkA {f : Addr} {fd : FuncData} (D : Df K mg "_law_pick" sPick f fd ["source", "many"]) (T : Bt mg) : FnG P w K mg base 1 f fd ["source", "many"] (spX K psPickX) :=
  (ok_pick D T).loose (fun st ds post ⟨m, h1, h2, e, ep⟩ => ⟨_, _, ⟨m, h1, h2, e, rfl, rfl⟩, by rw [ep]; exact ⟨_, (pick_in st h1).1, (pick_in st h1).2, rfl⟩⟩) fun ds post ⟨_, _, _, e, _⟩ => by rw [e]; rfl
theorem ok_ofXA {f f1 : Addr} {fd fd1 : FuncData} (D : Df K mg "_law_of" s__law_of f fd ["source", "some"]) (D1 : Df K mg "_law_pick" sPick f1 fd1 ["source", "many"]) (T : Bt mg) : FnG P w K mg base 2 f fd ["source", "some"] (spX K psOfX) :=
  (ok_ofA D D1 T).loose (fun st ds post ⟨xs, h1, h2, e, ep⟩ => ⟨_, _, ⟨xs, h1, h2, e, rfl, rfl⟩, by
    have := pick_in st (many := xs.length) (by omega)
    rw [ep, List.getD_eq_getElem?_getD, List.getElem?_eq_getElem (by omega)]
    exact List.getElem_mem _⟩) fun ds post ⟨_, _, _, e, _⟩ => by rw [e]; rfl
theorem ok_mixXA {f f1 : Addr} {fd fd1 : FuncData} (D : Df K mg "_law_mixed" sAny f fd ["source", "things"]) (D1 : Df K mg "_law_pick" sPick f1 fd1 ["source", "many"]) (T : Bt mg) : FnG P w K mg base 2 f fd ["source", "things"] (spX K psMixX) :=
  (ok_mixA D D1 T).loose (fun st ds post ⟨xs, cd, h0, h1, e, ep⟩ => ⟨_, _, ⟨xs, cd, h0, h1, e, rfl, rfl⟩, by rw [ep]; exact ⟨_, anyS_perm xs st, rfl⟩⟩) fun ds post ⟨_, _, _, _, e, _⟩ => by rw [e]; rfl
end
end G

set_option Elab.async false
set_option linter.all false
set_option maxRecDepth 100000
set_option maxHeartbeats 4000000
/- if with a test that draws: the one way leaves -/
namespace G
open PySem L2 PySem.Spec PyProof.Rows
section
variable {X : Cx} {ρ ρ1 : Env'} {c : Expr} {as rest : List Stmt} {pos : Pos} {P : O → Prop}
theorem dm_ifMR {C : Bool → Env' → Prop} (h : TM X ρ c C) (h1 : ∀ ρ1, C true ρ1 → DM X ρ1 as fun o => P o ∧ ∀ ρ, o ≠ .nx ρ) (h2 : ∀ ρ1, C false ρ1 → DM X ρ1 rest P) : DM X ρ (.If c as [] pos :: rest) P :=
  dm_seq (P1 := fun o => (∃ ρ1, o = .nx ρ1 ∧ C false ρ1) ∨ (P o ∧ ∀ ρ, o ≠ .nx ρ)) (sm_ifM h (fun ρ1 q => (h1 ρ1 q).mono fun o q => .inr q) fun ρ1 q => dm_nil (.inl ⟨ρ1, rfl, q⟩))
    (fun ρ2 q => by
      rcases q with ⟨ρ1, e, e'⟩ | ⟨_, q⟩
      · cases e; exact h2 _ e'
      · exact absurd rfl (q ρ2)) fun o q n => by
      rcases q with ⟨_, e, _⟩ | ⟨q, _⟩
      · exact absurd e (n _)
      · exact q
end
end G

set_option Elab.async false
set_option linter.all false
set_option maxRecDepth 100000
set_option maxHeartbeats 4000000
/- sums of tuples that draw -/
namespace G
open PySem L2 PySem.Spec PyProof.Rows
section
variable {X : Cx} {ρ ρ1 : Env'} {a b : Expr} {pos : Pos}
theorem em_catT {P : R → Env' → Prop} (ha : EM X ρ a fun r1 ρ1 => ∃ xs, r1 = .d (.tuple xs) ∧ EM X ρ1 b fun r2 ρ2 => ∃ ys, r2 = .d (.tuple ys) ∧ xs.length + ys.length ≤ sizeLine ∧ P (.d (.tuple (xs ++ ys))) ρ2) : EM X ρ (.BinOp a .Add b pos) P := fun F Z B H σ Q k q =>
  ⟨_, pe_op op_catN pe_s pe_s, ha F Z B H σ _ k fun r1 ρ1 v1 B1 H1 hp k1 x1 w1 => by
    obtain ⟨xs, rfl, hb⟩ := hp
    exact hb F Z B1 H1 σ _ k1 fun r2 ρ2 v2 B2 H2 hp2 k2 x2 w2 => by
      obtain ⟨ys, rfl, hz, hP⟩ := hp2
      have x := x1.trans x2
      obtain ⟨p1, vs, e1, s1, s1', t1⟩ := tup_at k2 (VR.mono x2 w1)
      obtain ⟨p2, us, e2, s2, s2', t2⟩ := tup_at k2 w2
      have l1 := DpAll.length t1
      have l2 := DpAll.length t2
      have q := fun v B3 H3 k3 x3 w3 => q (.d (.tuple (xs ++ ys))) ρ2 v B3 H3 hP k3 x3 w3
      refine ⟨p1, p2, vs, us, e1, e2, s1, s2, by rw [l1, l2]; exact hz, fun h => ?_, fun h h' => ?_, fun h h' => ?_⟩
      · have e : xs = [] := List.eq_nil_of_length_eq_zero (by rw [← l1, h]; rfl)
        rw [e] at q
        exact q _ B2 H2 k2 x (.tup s2'.1 s2'.2 t2)
      · have e : ys = [] := List.eq_nil_of_length_eq_zero (by rw [← l2, h']; rfl)
        rw [e, List.append_nil] at q
        exact q _ B2 H2 k2 x (.tup s1'.1 s1'.2 t1)
      · exact k2.newT (G.DpAll.append t1 t2) fun v B3 H3 k3 x3 w3 => q v B3 H3 k3 (x.trans x3) w3⟩
end
end G

set_option Elab.async false
set_option linter.all false
set_option maxRecDepth 100000
set_option maxHeartbeats 4000000
/- *d, d a dict; a def that gives its own dict back -/
namespace G
open PySem L2 PySem.Spec PyProof.Rows
section
variable {X : Cx} {pins : List (Addr × Obj)} {σ : L2.St} {H : Hp} {s : Shared}
theorem star_dict {a : Addr} {kvs : List (Key × V)} {E : Value → Shared → Prop} {Q : List Value → Shared → Prop} (hc : X.calm = true) (I : Inv X pins σ H s) (h : Rd H a (.dK kvs)) (hQ : ∀ us s', Inv X pins σ H s' → Vals (kvs.map fun kv => kV kv.1) us → Q us s') : PySem.W.StarOf (model X.prog X.w) X.A E (.ref a) Q s := by
  obtain ⟨z, lo, vs, rel, dd⟩ := dk_rd I.hok h
  obtain ⟨ep, hat⟩ := dd.dictAt
  have ek : (kvs.map fun kv => kV kv.1) = vs.map fun p => kV p.1 := by
    have e := congrArg (List.map kV) rel.keys
    rw [List.map_map, List.map_map] at e
    exact e
  have z1 : wpAny (model X.prog X.w) X.A (collect (.ref a)) Q E s := by
    refine PySem.W.kdu_collect (PySem.W.kdl_dict (knd := mixKind X.prog X.w) (kvs := vs) (ep := ep) lo) (I.ok.hd hc) hat (by rw [← rel.length]; exact z) fun h' tk acc hk hacc => ?_
    have hv : Vals (vs.map fun p => kV p.1) acc.toList := keys_at (by rw [Array.length_toList]; exact hacc.1) fun j v e => hacc.2 j v (by rw [← Array.getElem?_toList]; exact e)
    exact hQ acc.toList _ (I.kept (t' := tk) hk) (by rw [ek]; exact hv)
  unfold PySem.W.StarOf notIterableAtAll
  exact wpAny_bind (wpAny_specialOf hat.dictOf.typeIs PySem.F.slot_dict_iter.lookup (wpAny_pure ⟨rfl, z1⟩))
end
def tStarD (te : TE) (t : TA) : TA := fun σ H Q => te σ H fun x H1 => ∃ p kvs, x = V.ref p ∧ Rd H1 p (.dK kvs) ∧ t σ H1 fun ys H2 => Q ((kvs.map fun kv => kV kv.1) ++ ys) H2
section
variable {X : Cx} {ρ ρ1 ρ2 : Env'} {e : Expr} {es : List Expr} {p pos : Pos} {ys : List PyData} {te : TE} {t : TA} {s : List (Key × PyData)} {r : R} {i : Nat}
theorem pa_starD (hc : X.calm = true) (he : PE X e te) (hr : PA X es t) (hs : starEach (.Starred e p :: es) X.env = (true, eval e X.env) :: starEach es X.env := by rfl) : PA X (.Starred e p :: es) (tStarD te t) := by
  refine ⟨fun pos pins s σ H Q I h => ?_⟩
  refine PySem.W.items_star (thn (he.run pins s σ H _ I h) fun v s1 ⟨y, H1, I1, ry, a, xs, ey, hx, q⟩ => ?_) hs
  subst ey
  obtain rfl : v = Value.ref a := ry
  refine star_dict hc I1 hx fun us s2 I2 rv => ?_
  exact thn (hr.run pos pins s2 σ H1 _ I2 q) fun ws s3 ⟨vs, H3, I3, r3, q3⟩ => ⟨_, H3, I3, rv.append r3, q3⟩
theorem da_starD (hc : X.calm = true) (hq : RD ρ1 r s) (h : DE X ρ e r ρ1) (t : DA X ρ1 es ys ρ2) (hs : starEach (.Starred e p :: es) X.env = (true, eval e X.env) :: starEach es X.env := by rfl) : DA X ρ (.Starred e p :: es) ((s.map fun kv => keyD kv.1) ++ ys) ρ2 := fun F Z B H σ Q k q =>
  ⟨_, pa_starD hc pe_s pa_s hs, h F Z B H σ _ k fun v B1 H1 k1 x1 w1 => by
    obtain ⟨a, rr, rfl, hh, t0⟩ := hq.at k1 w1
    have ks : ∀ {rr : List (Key × V)} {s : List (Key × PyData)}, KvAll X.K B1 rr s → DpAll X.K B1 (rr.map fun kv => kV kv.1) (s.map fun kv => keyD kv.1) := by
      intro rr s t
      induction t with
      | nil => exact .nil
      | cons _ _ ih => exact .cons (key_dp _) ih
    exact ⟨a, rr, rfl, hh, t F Z B1 H1 σ _ k1 fun us B2 H2 k2 x2 t2 => q _ B2 H2 k2 (x1.trans x2) (G.DpAll.append (dpAll_mono x2 (ks t0)) t2)⟩⟩
theorem dbo_retK (h : DE X ρ e (.o i) ρ1) (hs : ρ1[i]? = some (.o (.dk s)) := by rfl) : DBo X ρ [.Return (some e) pos] (.dk s) := fun F Z B H σ D k q =>
  ⟨_, pss_one (ps_ret pe_s), h F Z B H σ _ k fun v B' H' k' x w => by
    obtain ⟨v', as, g1, g2, g3⟩ := k'.ob (gS_some hs)
    have w' : gV σ i = some v := w
    rw [w'] at g1
    cases g1
    have g := g2
    cases g2 with
    | @dk a _ _ h1 t1 =>
    obtain ⟨f1, f2, f3⟩ := g3 a List.mem_cons_self
    exact q a B' H' σ ρ1 k' x f1 f2 f3 g⟩
end
end G

set_option Elab.async false
set_option linter.all false
set_option maxRecDepth 100000
set_option maxHeartbeats 4000000
/- x, y = {}, {} -/
namespace G
open PySem L2 PySem.Spec PyProof.Rows
section
variable {X : Cx} {ρ ρ1 ρ2 : Env'} {a b : Expr} {pos : Pos} {b1 b2 : Ob}
theorem df_empty {pos : Pos} : DF X ρ (.Dict [] [] pos) (.dk []) ρ := fun F Z B H σ Q k q => ⟨_, pe_dnewK, fun d hd => q d B _ (k.loose hd _) (Sub.refl B) (k.laid hd _) (.dk upd_same .nil)⟩
theorem ds_par2F {i j : Nat} {x y : Str} {s1 s2 : Sl} {px py pt pt2 : Pos} {kt k2} (hc : X.calm = true) (hN : X.N.Nodup) (h2 : DF X ρ a b1 ρ1) (h3 : DF X ρ1 b b2 ρ2)
    (hr1 : ρ2[i]? = some s1 := by rfl) (hr2 : ρ2[j]? = some s2 := by rfl) (hi : X.N[i]? = some x := by rfl) (hj : X.N[j]? = some y := by rfl) (hij : i ≠ j := by decide)
    (lx : X.env.scope.names.lookup x = some .local := by rfl) (ly : X.env.scope.names.lookup y = some .local := by rfl)
    (hw : swappedStores [.Tuple [.Name x px, .Name y py] kt pt] (.Tuple [a, b] k2 pt2) X.env = pure (some [x, y]) := by rfl)
    (hs : swapsWithSole [.Tuple [.Name x px, .Name y py] kt pt] (.Tuple [a, b] k2 pt2) pos.line X.env = pure false := by rfl)
    (hs1 : starEach [a, b] X.env = (false, eval a X.env) :: starEach [b] X.env := by rfl) (hs2 : starEach [b] X.env = (false, eval b X.env) :: starEach [] X.env := by rfl) :
    DS X ρ (.Assign [.Tuple [.Name x px, .Name y py] kt pt] (.Tuple [a, b] k2 pt2) pos) (.nx ((ρ2.set i (.o b1)).set j (.o b2))) := fun F Z B H σ D k q =>
  ⟨_, ps_par hc hN hi hj hij lx ly (pa_cons pe_s (pa_cons pe_s pa_nil hs2) hs1) hw hs,
    h2 F Z B H σ _ k fun p2 B2 H2 k2 x2 n2 ob2 => by
    obtain ⟨o2', hp2⟩ := ob2.live p2 List.mem_cons_self
    refine h3 _ _ B2 H2 σ _ (k2.lock n2 hp2) fun p3 B3 H3 k3 x3 n3 ob3 => ?_
    obtain ⟨k4, n4, h4⟩ := k3.unlock n2.f n2.z
    obtain ⟨n5, ne⟩ := n3.less
    have i1 : i < ρ2.length := (List.getElem?_eq_some_iff.mp hr1).1
    have j1 : j < ρ2.length := (List.getElem?_eq_some_iff.mp hr2).1
    have o2 : ObAt X.K B3 H3 (.ref p2) [p2] b1 := ob2.mono x3 fun a ha => by rw [List.mem_singleton.mp ha, h4, hp2]
    have k5 := k4.take n4 i1 o2
    have n6 := n5.setO (i := i) (v := .ref p2) k4.len o2 (by simpa using ne)
    have k6 := k5.take n6 (by rw [List.length_set]; exact j1) ob3
    exact ⟨.ref p2, .ref p3, rfl, q B3 H3 _ k6 (x2.trans x3)⟩⟩
/-- x, y = {}, {} (names that are cells) -/
theorem ds_asgFF {i j : Nat} {x y : Str} {s1 s2 : Sl} {px py pt pt2 : Pos} {kt k2} (hc : X.calm = true) (hN : X.N.Nodup) (h1 : DF X ρ a b1 ρ1) (h2 : DF X ρ1 b b2 ρ2) (hij : i ≠ j)
    (hr1 : ρ2[i]? = some s1 := by rfl) (hr2 : ρ2[j]? = some s2 := by rfl) (hi : X.N[i]? = some x := by rfl) (hj : X.N[j]? = some y := by rfl)
    (lx : Loc X.env.scope x := by first | exact Or.inl rfl | exact Or.inr rfl) (ly : Loc X.env.scope y := by first | exact Or.inl rfl | exact Or.inr rfl)
    (fx : X.fn x = true ∨ X.env.scope.names.lookup x = some .local := by first | exact .inl rfl | exact .inr rfl) (fy : X.fn y = true ∨ X.env.scope.names.lookup y = some .local := by first | exact .inl rfl | exact .inr rfl)
    (hs : swapsWithSole [.Tuple [.Name x px, .Name y py] kt pt] (.Tuple [a, b] k2 pt2) pos.line X.env = pure false := by rfl) (hw : swappedStores [.Tuple [.Name x px, .Name y py] kt pt] (.Tuple [a, b] k2 pt2) X.env = pure none := by rfl)
    (hs1 : starEach [a, b] X.env = (false, eval a X.env) :: starEach [b] X.env := by rfl) (hs2 : starEach [b] X.env = (false, eval b X.env) :: starEach [] X.env := by rfl) :
    DS X ρ (.Assign [.Tuple [.Name x px, .Name y py] kt pt] (.Tuple [a, b] k2 pt2) pos) (.nx ((ρ2.set i (.o b1)).set j (.o b2))) := fun F Z B H σ D k q =>
  ⟨_, ps_asg (pe_tup (pa_cons pe_s (pa_cons pe_s pa_nil hs2) hs1)) (pg_tup (n := 2) hc (pgs_cons (pg_name hN hi lx fx) (pgs_cons (pg_name hN hj ly fy) pgs_nil))) hs hw,
    h1 F Z B H σ _ k fun p1 B1 H1 k1 x1 n1 ob1 => by
    obtain ⟨o1, hp1⟩ := ob1.live p1 List.mem_cons_self
    refine h2 _ _ B1 H1 σ _ (k1.lock n1 hp1) fun p2 B2 H2 k2' x2 n2 ob2 => ?_
    obtain ⟨o2, hp2⟩ := ob2.live p2 List.mem_cons_self
    obtain ⟨k5, n5, h5⟩ := k2'.unlock n1.f n1.z
    obtain ⟨n6, ne⟩ := n2.less
    refine ⟨by show 2 ≤ sizeLine; decide, fun t ht => ?_⟩
    have k7 := k5.loose ht (.tup [.ref p1, .ref p2])
    have keep : ∀ b, b ≠ t → upd H2 t (.tup [.ref p1, .ref p2]) b = H2 b := fun b hb => upd_ne hb
    have t1 : p1 ≠ t := fun e => by rw [← e, h5] at ht; cases ht
    have t2' : p2 ≠ t := fun e => by rw [← e, hp2] at ht; cases ht
    have n7 : New X.K F Z B2 (upd H2 t (.tup [.ref p1, .ref p2])) σ ρ2 p1 := n5.other (B' := B2) k5 (fun b hb ⟨o, ho⟩ => keep b fun e => by rw [e, ht] at ho; cases ho) ⟨_, h5⟩
    have n8 : New X.K F Z B2 (upd H2 t (.tup [.ref p1, .ref p2])) σ ρ2 p2 := n6.other (B' := B2) k5 (fun b hb ⟨o, ho⟩ => keep b fun e => by rw [e, ht] at ho; cases ho) ⟨_, hp2⟩
    have o7 : ObAt X.K B2 (upd H2 t (.tup [.ref p1, .ref p2])) (.ref p1) [p1] b1 := ob1.mono x2 fun a ha => by rw [List.mem_singleton.mp ha, keep p1 t1, h5, hp1]
    have o8 : ObAt X.K B2 (upd H2 t (.tup [.ref p1, .ref p2])) (.ref p2) [p2] b2 := ob2.mono (Sub.refl B2) fun a ha => by rw [List.mem_singleton.mp ha]; exact keep p2 t2'
    refine ⟨t, [.ref p1, .ref p2], rfl, SqT.of upd_same, rfl, _, _, rfl, _, _, rfl, rfl, ?_⟩
    have i1 : i < ρ2.length := (List.getElem?_eq_some_iff.mp hr1).1
    have j1 : j < ρ2.length := (List.getElem?_eq_some_iff.mp hr2).1
    have k8 := k7.take n7 i1 o7
    have n9 := n8.setO (i := i) (v := .ref p1) k7.len o7 (by simpa using ne)
    exact q B2 _ _ (k8.take n9 (by rw [List.length_set]; exact j1) o8) (x1.trans x2)⟩
end
end G

set_option Elab.async false
set_option linter.all false
set_option maxRecDepth 100000
set_option maxHeartbeats 4000000
/- parts of lists that draw, loops over lists that draw, powers -/
namespace G
open PySem L2 PySem.Spec PyProof.Rows
section
variable {X : Cx} {ρ ρ1 ρ2 ρ3 : Env'} {a b tg iter : Expr} {body rest : List Stmt} {pos p2 : Pos} {P : O → Prop}
theorem de_pow {i j : Int} (hc : CPow i j) (ha : DE X ρ a (.d (.int i)) ρ1) (hb : DE X ρ1 b (.d (.int j)) ρ2) : DE X ρ (.BinOp a .Pow b pos) (.d (.int (i ^ j.toNat))) ρ2 := de_op op_pow (od_I hc fun _ _ => .int _) ha hb
theorem em_slL {P : R → Env' → Prop} {lo hi : Option Expr} {i j : Option Int} (ha : EM X ρ a fun r ρ1 => ∃ xs ρ2 ρ3, r = .d (.list xs) ∧ DO X ρ1 lo i ρ2 ∧ DO X ρ2 hi j ρ3 ∧ P (.d (.list (cutD xs i j))) ρ3) : EM X ρ (.Subscript a (.Slice lo hi none p2) pos) P := fun F Z B H σ Q k q =>
  ⟨_, pe_slice sl_list pe_s po_s po_s, ha F Z B H σ _ k fun r ρ1 v B1 H1 hp k1 x1 w => by
    obtain ⟨xs, ρ2, ρ3, rfl, h1, h2, hp⟩ := hp
    refine h1 F Z B1 H1 σ _ k1 fun B2 H2 k2 x2 => h2 F Z B2 H2 σ _ k2 fun B3 H3 k3 x3 => ?_
    obtain ⟨p, vs, e, s, t⟩ := (RL.d (ρ := ρ3) (xs := xs)).at k3 (VR.mono (x2.trans x3) w)
    refine ⟨p, vs, e, s, fun l hl => ?_⟩
    have n := k3.laid hl (.lst (cutV vs i j))
    have kk := k3.loose hl (.lst (cutV vs i j))
    exact q _ _ _ _ _ hp (kk.adopt n upd_same) (((x1.trans x2).trans x3).trans (Sub.new _ n.b)) (Dp.lst (SqL.of upd_same) (dpAll_mono (Sub.new _ n.b) (cutV_dp t)))⟩
/-- for over a list that draws -/
theorem dm_forM (J : List PyData → Nat → Env' → Prop) (hp : PassesOwn (model X.prog X.w) X.A X.env X.xe) (hc : X.calm = true) (he : EM X ρ iter fun r ρ1 => ∃ xs, r = .d (.list xs) ∧ J xs 0 ρ1)
    (turn : ∀ (xs : List PyData) (i : Nat) (x : PyData) (ρa : Env'), xs[i]? = some x → J xs i ρa → ∃ ρt js, DG X ρa tg x js ρt ∧ DM X ρt body fun o => ∃ ρ', o = .nx ρ' ∧ J xs (i + 1) ρ')
    (go : ∀ xs ρ', J xs xs.length ρ' → DM X ρ' rest P) (hs : ∀ x, foldedSetIterable iter X.env x = pure x := by intro _; rfl) : DM X ρ (.For tg iter body [] pos :: rest) P :=
  dm_go (J := fun ρ' => ∃ xs, J xs xs.length ρ') (fun F Z B H σ D k q =>
  ⟨_, ps_for hp hc pi_s pg_s pb_s hs, ⟨_, pi_list pe_s, he F Z B H σ _ k fun r ρ1 v B1 H1 hP k1 x1 w => by
    obtain ⟨xs, rfl, j0⟩ := hP
    cases w with
    | @lst a vs _ s t =>
      refine ⟨a, rfl, ⟨vs, s.imp k1.exB.rd id⟩, ?_⟩
      have hn := DpAll.length t
      refine for_it walk_list (fun i σ' H' => ∃ B' ρa, J xs i ρa ∧ Ok X.K F Z B' H' σ' ρa ∧ Sub B1 B') ⟨B1, ρ1, j0, k1, Sub.refl B1⟩ (fun i σ' H' _ ⟨B', _, _, k', y⟩ => s.imp (y.trans k'.exB).rd id) ?_ fun σ' H' ⟨B', ρa, ja, k', y⟩ => q _ ⟨ρa, rfl, xs, by rw [← hn]; exact ja⟩ B' H' σ' k' (x1.trans y)
      rintro i v σ' H' H2 hi' ⟨B', ρa, ja, k', y⟩ ⟨rfl, hv⟩
      obtain ⟨x, hx, h2⟩ := DpAll.get t hv
      obtain ⟨ρt, js, t1, t2⟩ := turn xs i x ρa hx ja
      refine t1 F Z B' _ σ' v _ k' (dp_mono y h2) fun B3 H3 σ3 k3 y3 _ => ?_
      refine t2 F Z B3 H3 σ3 _ k3 fun o ho => ?_
      obtain ⟨ρ', rfl, ho⟩ := ho
      exact fun B4 H4 σ4 k4 y4 => ⟨B4, ρ', ho, k4, (y.trans y3).trans y4⟩⟩⟩) fun ρ' ⟨xs, j⟩ => go xs ρ' j
end
end G

set_option Elab.async false
set_option linter.all false
set_option maxRecDepth 100000
set_option maxHeartbeats 4000000
/- data whose repr is short -/
namespace G
open PySem L2 PySem.Spec PyProof.Rows
structure Bd (m d : Nat) (x : PyData) : Prop where
  sh : x.showable = true
  dp : x.depth ≤ d
  ln : x.shown.length ≤ m
theorem Bd.mono {m d m' d' : Nat} {x : PyData} (h : Bd m d x) (h1 : m ≤ m') (h2 : d ≤ d') : Bd m' d' x := ⟨h.sh, Nat.le_trans h.dp h2, Nat.le_trans h.ln h1⟩
theorem bd_int {i : Int} (h0 : 0 ≤ i) (h1 : i < 10) : Bd 1 0 (.int i) := by
  refine ⟨?_, by simp [PyData.depth], ?_⟩
  · simp only [PyData.showable]
    have : i.natAbs < 10 := by omega
    have l : i.natAbs.log2 < 10 := by
      have := Nat.log2_le_self i.natAbs
      omega
    exact decide_eq_true (by omega)
  · simp only [PyData.shown]
    rw [← tl_len, digit_shown h0 h1]
    exact Nat.le_refl 1
theorem bd_none : Bd 4 0 .none := by
  refine ⟨by simp [PyData.showable], by simp [PyData.depth], ?_⟩
  simp only [PyData.shown]
  decide
theorem fold_len {m : Nat} {z : List Nat} : ∀ {ts : List Str}, (∀ t ∈ ts, t.length ≤ m) → (ts.foldr (fun t r => 44 :: 32 :: (tl t ++ r)) z).length ≤ ts.length * (m + 2) + z.length
  | [], _ => by simp
  | t :: ts, h => by
    have h1 := h t List.mem_cons_self
    have h2 := fold_len (m := m) (z := z) fun a ha => h a (List.mem_cons_of_mem _ ha)
    rw [List.foldr_cons]
    simp only [List.length_cons, List.length_append, tl_len]
    rw [Nat.add_mul]
    omega
theorem join_len {m : Nat} {ts : List Str} (h : ∀ t ∈ ts, t.length ≤ m) : (Str.join (Str.ofString ", ") ts).length ≤ ts.length * (m + 2) := by
  cases ts with
  | nil => exact Nat.zero_le _
  | cons t ts =>
    have e := join_tl t ts []
    rw [List.append_nil] at e
    rw [← tl_len, e, List.length_append, tl_len]
    have h1 := h t List.mem_cons_self
    have h2 := fold_len (m := m) (z := []) fun a ha => h a (List.mem_cons_of_mem t ha)
    simp only [List.length_cons, List.length_nil] at h2 ⊢
    rw [Nat.add_mul]
    omega
theorem bd_sh {xs : List PyData} (h : ∀ x ∈ xs, x.showable = true) : PyData.showableAll xs = true := by
  induction xs with
  | nil => simp [PyData.showableAll]
  | cons x xs ih =>
    simp only [PyData.showableAll, h x List.mem_cons_self, ih fun a ha => h a (List.mem_cons_of_mem _ ha)]
    rfl
theorem bd_dp {d : Nat} {xs : List PyData} (h : ∀ x ∈ xs, x.depth ≤ d) : PyData.depthAll xs ≤ d := by
  induction xs with
  | nil => simp [PyData.depthAll]
  | cons x xs ih =>
    have h1 := h x List.mem_cons_self
    have h2 := ih fun a ha => h a (List.mem_cons_of_mem _ ha)
    simp only [PyData.depthAll]
    omega
theorem bd_tup {m d : Nat} {xs : List PyData} (h : ∀ x ∈ xs, Bd m d x) : Bd (xs.length * (m + 2) + 3) (d + 1) (.tuple xs) := by
  refine ⟨?_, ?_, ?_⟩
  · simp only [PyData.showable]
    exact bd_sh fun x hx => (h x hx).sh
  · have := bd_dp fun x hx => (h x hx).dp
    simp only [PyData.depth]
    omega
  · have e : (PyData.tuple xs).shown = tupleText (xs.map fun k => k.shown) := by
      simp only [PyData.shown]
      rw [shownAll_eq_map]
    have j := join_len (m := m) (ts := xs.map fun k => k.shown) fun t ht => by
      obtain ⟨x, hx, rfl⟩ := List.mem_map.mp ht
      exact (h x hx).ln
    rw [List.length_map] at j
    rw [e, ← tl_len]
    unfold tupleText
    rw [tl_append, tl_append]
    have e1 : tl (Str.ofString "(") = [40] := by decide +kernel
    have e2 : tl (Str.ofString ")") = [41] := by decide +kernel
    have e3 : tl (Str.ofString ",)") = [44, 41] := by decide +kernel
    rw [e1]
    simp only [List.length_append, tl_len]
    split
    · rw [← tl_len (Str.ofString ",)"), e3]
      simp only [List.length_cons, List.length_nil]
      omega
    · rw [← tl_len (Str.ofString ")"), e2]
      simp only [List.length_cons, List.length_nil]
      omega
theorem Bd.all {m d : Nat} {x : PyData} (h : Bd m d x) (hm : m ≤ 1000000 := by decide) (hd : d ≤ 64 := by decide) : x.showable = true ∧ x.depth ≤ 64 ∧ x.shown.length ≤ sizeLine := ⟨h.sh, Nat.le_trans h.dp hd, Nat.le_trans h.ln (Nat.le_trans hm (by decide))⟩
end G

set_option Elab.async false
set_option linter.all false
set_option maxRecDepth 100000
set_option maxHeartbeats 4000000
/- whole numbers are shown shortly -/
namespace G
open PySem L2 PySem.Spec PyProof.Rows
theorem tl_str (s : String) : tl (Str.ofString s) = s.toList.map Char.toNat := by
  unfold tl
  rw [Str.ofString_eq_toList]
theorem int_cps (i : Int) : ∀ c ∈ tl (Str.ofString (toString i)), c = 45 ∨ (48 ≤ c ∧ c ≤ 57) := fun c hc => by
  rw [tl_str] at hc
  obtain ⟨ch, hh, rfl⟩ := List.mem_map.mp hc
  rcases int_sign i ch hh with h | rfl
  · exact .inr (Char.isDigit_iff_toNat.mp h)
  · exact .inl rfl
theorem log_lt {a k : Nat} (h : a < 2 ^ k) (hk : 0 < k) : a.log2 < k := by
  by_cases z : a = 0
  · subst z; rw [Nat.log2_zero]; exact hk
  · exact (Nat.log2_lt z).mpr h
theorem bd_nat {i : Int} (h0 : 0 ≤ i) (h1 : i < 10000) : Bd 10 0 (.int i) := by
  have hi' : i.natAbs < 10 ^ 4 := by omega
  refine ⟨?_, by simp [PyData.depth], ?_⟩
  · simp only [PyData.showable]
    exact decide_eq_true (log_lt (Nat.lt_of_lt_of_le hi' (by decide +kernel)) (by decide))
  · simp only [PyData.shown]
    have := int_text_length_le10 (a := i) (k := 4) (by decide) hi'
    rw [← tl_len, tl_str, List.length_map]
    have e : (toString i).toList.length = (toString i).length := String.length_toList
    rw [e]; omega
theorem bd_big {i : Int} (h : i.natAbs < 10 ^ 100) : Bd 101 0 (.int i) := by
  refine ⟨?_, by simp [PyData.depth], ?_⟩
  · simp only [PyData.showable]
    exact decide_eq_true (log_lt (Nat.lt_of_lt_of_le h (by decide +kernel)) (by decide))
  · simp only [PyData.shown]
    have := int_text_length_le10 (a := i) (k := 100) (by decide) h
    rw [← tl_len, tl_str, List.length_map]
    have e : (toString i).toList.length = (toString i).length := String.length_toList
    rw [e]; omega
end G

set_option Elab.async false
set_option linter.all false
set_option maxRecDepth 100000
set_option maxHeartbeats 4000000
/- sentences: what they are as data, their rank, what is free, when they are true -/
namespace G
open PySem L2 PySem.Spec PyProof.Rows
inductive Fm where
  | arrow (i j : Int)
  | same (i j : Int)
  | color (i c : Int)
  | neg (f : Fm)
  | conj (fs : List Fm)
  | some (i : Int) (f : Fm)
  | least (m i : Int) (f : Fm)
mutual
def Fm.data : Fm → PyData
  | .arrow i j => .tuple [.str "arrow", .int i, .int j]
  | .same i j => .tuple [.str "same", .int i, .int j]
  | .color i c => .tuple [.str "color", .int i, .int c]
  | .neg f => .tuple [.str "not", f.data]
  | .conj fs => .tuple [.str "and", .tuple (Fm.datas fs)]
  | .some i f => .tuple [.str "some", .int i, f.data]
  | .least m i f => .tuple [.str "least", .int m, .int i, f.data]
def Fm.datas : List Fm → List PyData
  | [] => []
  | f :: fs => f.data :: Fm.datas fs
end
theorem Fm.datas_map : ∀ fs : List Fm, Fm.datas fs = fs.map Fm.data
  | [] => rfl
  | f :: fs => by rw [Fm.datas, Fm.datas_map fs]; rfl
def Fm.subs : Fm → List Fm
  | .neg f => [f]
  | .conj fs => fs
  | .some _ f => [f]
  | .least _ _ f => [f]
  | _ => []
mutual
/-- how deep it is -/
def Fm.dep : Fm → Nat
  | .arrow _ _ => 0
  | .same _ _ => 0
  | .color _ _ => 0
  | .neg f => f.dep + 1
  | .conj fs => Fm.deps fs + 1
  | .some _ f => f.dep + 1
  | .least _ _ f => f.dep + 1
def Fm.deps : List Fm → Nat
  | [] => 0
  | f :: fs => max f.dep (Fm.deps fs)
end
theorem Fm.deps_le : ∀ {fs : List Fm} {f : Fm}, f ∈ fs → f.dep ≤ Fm.deps fs
  | g :: fs, f, h => by
    rw [Fm.deps]
    rcases List.mem_cons.mp h with rfl | h
    · exact Nat.le_max_left _ _
    · exact Nat.le_trans (Fm.deps_le h) (Nat.le_max_right _ _)
theorem Fm.sub_dep {f g : Fm} (h : g ∈ f.subs) : g.dep + 1 ≤ f.dep := by
  cases f with
  | arrow _ _ => cases h
  | same _ _ => cases h
  | color _ _ => cases h
  | neg f => rw [List.mem_singleton.mp h, Fm.dep]; exact Nat.le_refl _
  | conj fs => rw [Fm.dep]; exact Nat.succ_le_succ (Fm.deps_le h)
  | some _ f => rw [List.mem_singleton.mp h, Fm.dep]; exact Nat.le_refl _
  | least _ _ f => rw [List.mem_singleton.mp h, Fm.dep]; exact Nat.le_refl _
mutual
/-- as many as it has parts side by side, at most -/
def Fm.wide : Fm → Nat
  | .arrow _ _ => 0
  | .same _ _ => 0
  | .color _ _ => 0
  | .neg f => f.wide
  | .conj fs => max fs.length (Fm.wides fs)
  | .some _ f => f.wide
  | .least _ _ f => f.wide
def Fm.wides : List Fm → Nat
  | [] => 0
  | f :: fs => max f.wide (Fm.wides fs)
end
theorem Fm.wides_le : ∀ {fs : List Fm} {f : Fm}, f ∈ fs → f.wide ≤ Fm.wides fs
  | g :: fs, f, h => by
    rw [Fm.wides]
    rcases List.mem_cons.mp h with rfl | h
    · exact Nat.le_max_left _ _
    · exact Nat.le_trans (Fm.wides_le h) (Nat.le_max_right _ _)
theorem Fm.sub_wide {f g : Fm} (h : g ∈ f.subs) : g.wide ≤ f.wide := by
  cases f with
  | arrow _ _ => cases h
  | same _ _ => cases h
  | color _ _ => cases h
  | neg f => rw [List.mem_singleton.mp h, Fm.wide]; exact Nat.le_refl _
  | conj fs => rw [Fm.wide]; exact Nat.le_trans (Fm.wides_le h) (Nat.le_max_right _ _)
  | some _ f => rw [List.mem_singleton.mp h, Fm.wide]; exact Nat.le_refl _
  | least _ _ f => rw [List.mem_singleton.mp h, Fm.wide]; exact Nat.le_refl _
theorem Fm.subs_len (f : Fm) : f.subs.length ≤ f.wide + 1 := by
  cases f with
  | conj fs => rw [Fm.wide]; exact Nat.le_trans (Nat.le_max_left _ _) (Nat.le_succ _)
  | arrow _ _ => exact Nat.zero_le _
  | same _ _ => exact Nat.zero_le _
  | color _ _ => exact Nat.zero_le _
  | neg f => exact Nat.succ_le_succ (Nat.zero_le _)
  | some _ f => exact Nat.succ_le_succ (Nat.zero_le _)
  | least _ _ f => exact Nat.succ_le_succ (Nat.zero_le _)
mutual
def Fm.rank : Fm → Nat
  | .arrow _ _ => 0
  | .same _ _ => 0
  | .color _ _ => 0
  | .neg f => f.rank
  | .conj fs => Fm.ranks fs
  | .some _ f => f.rank + 1
  | .least _ _ f => f.rank + 1
def Fm.ranks : List Fm → Nat
  | [] => 0
  | f :: fs => max f.rank (Fm.ranks fs)
end
def Fm.isQ : Fm → Bool
  | .some _ _ => true
  | .least _ _ _ => true
  | _ => false
theorem Fm.ranks_le : ∀ {fs : List Fm} {f : Fm}, f ∈ fs → f.rank ≤ Fm.ranks fs
  | g :: fs, f, h => by
    rw [Fm.ranks]
    rcases List.mem_cons.mp h with rfl | h
    · exact Nat.le_max_left _ _
    · exact Nat.le_trans (Fm.ranks_le h) (Nat.le_max_right _ _)
theorem Fm.ranks_mem : ∀ fs : List Fm, Fm.ranks fs = 0 ∨ ∃ f ∈ fs, f.rank = Fm.ranks fs
  | [] => .inl rfl
  | f :: fs => by
    rw [Fm.ranks]
    rcases Nat.le_total f.rank (Fm.ranks fs) with h | h
    · rw [Nat.max_eq_right h]
      exact (Fm.ranks_mem fs).imp id fun ⟨g, hg, e⟩ => ⟨g, List.mem_cons_of_mem _ hg, e⟩
    · rw [Nat.max_eq_left h]
      exact .inr ⟨f, List.mem_cons_self, rfl⟩
theorem Fm.rank_eq (f : Fm) : f.rank = Fm.ranks f.subs + (if f.isQ = true then 1 else 0) := by
  cases f <;> simp [Fm.rank, Fm.subs, Fm.ranks, Fm.isQ]
/-- the variable that it binds -/
def Fm.bound : Fm → Int
  | .some i _ => i
  | .least _ i _ => i
  | _ => 0
mutual
/-- what is free, each once, ascending -/
def Fm.free : Fm → List Int
  | .arrow i j => onceI [i, j]
  | .same i j => onceI [i, j]
  | .color i _ => [i]
  | .neg f => onceI (f.free.foldl addI [])
  | .conj fs => onceI (Fm.frees [] fs)
  | .some i f => onceI ((f.free.foldl addI []).filter fun x => !decide (x = i))
  | .least _ i f => onceI ((f.free.foldl addI []).filter fun x => !decide (x = i))
def Fm.frees : List Int → List Fm → List Int
  | acc, [] => acc
  | acc, f :: fs => Fm.frees (f.free.foldl addI acc) fs
end
/-- names that variables stand for -/
def putI (st : List (Int × Int)) (x a : Int) : List (Int × Int) := if (st.any fun p => decide (p.1 = x)) = true then st.map fun p => if p.1 = x then (p.1, a) else p else st ++ [(x, a)]
def atS (st : List (Int × Int)) (x : Int) : Int := ((st.find? fun p => decide (p.1 = x)).map (·.2)).getD 0
mutual
def Fm.tr (W : Wb) : Fm → List (Int × Int) → Bool
  | .arrow i j, st => decide ((atS st i, atS st j) ∈ W.arr)
  | .same i j, st => decide (atS st i = atS st j)
  | .color i c, st => decide (W.col.getD (atS st i).toNat 0 = c)
  | .neg f, st => !Fm.tr W f st
  | .conj fs, st => Fm.trs W fs st
  | .some i f, st => decide (1 ≤ (((List.range W.n).filter fun a => Fm.tr W f (putI st i (a : Nat))).length : Nat))
  | .least m i f, st => decide (m ≤ ((((List.range W.n).filter fun a => Fm.tr W f (putI st i (a : Nat))).length : Nat) : Int))
def Fm.trs (W : Wb) : List Fm → List (Int × Int) → Bool
  | [], _ => true
  | f :: fs, st => Fm.tr W f st && Fm.trs W fs st
end
theorem Fm.trs_all {W : Wb} {st : List (Int × Int)} : ∀ fs : List Fm, Fm.trs W fs st = fs.all fun f => Fm.tr W f st
  | [] => by rw [Fm.trs]; rfl
  | f :: fs => by rw [Fm.trs, Fm.trs_all fs]; rfl
mutual
/-- its free variables are among some -/
def Fm.closed : Fm → List Int → Bool
  | .arrow i j, d => decide (i ∈ d) && decide (j ∈ d)
  | .same i j, d => decide (i ∈ d) && decide (j ∈ d)
  | .color i _, d => decide (i ∈ d)
  | .neg f, d => f.closed d
  | .conj fs, d => Fm.closeds fs d
  | .some i f, d => f.closed (i :: d)
  | .least _ i f, d => f.closed (i :: d)
def Fm.closeds : List Fm → List Int → Bool
  | [], _ => true
  | f :: fs, d => f.closed d && Fm.closeds fs d
end
theorem Fm.closeds_mem {d : List Int} : ∀ {fs : List Fm} {f : Fm}, Fm.closeds fs d = true → f ∈ fs → f.closed d = true
  | g :: fs, f, h, m => by
    rw [Fm.closeds, Bool.and_eq_true] at h
    rcases List.mem_cons.mp m with rfl | m
    · exact h.1
    · exact Fm.closeds_mem h.2 m
theorem kvI_putI (st : List (Int × Int)) (x a : Int) : putD (kvI st) (.inl x) (.int a) = kvI (putI st x a) := by
  have e1 : ((kvI st).any fun kv => decide (kv.1 = (.inl x : Key))) = st.any fun p => decide (p.1 = x) := by
    unfold kvI
    rw [List.any_map]
    refine congrArg (fun q => st.any q) (funext fun p => ?_)
    exact decide_eq_decide.mpr ⟨fun h => Sum.inl.inj h, fun h => congrArg Sum.inl h⟩
  unfold putD putI
  rw [e1]
  split
  · unfold kvI
    rw [List.map_map, List.map_map]
    refine List.map_congr_left fun p _ => ?_
    show (if (Sum.inl p.1 : Key) = .inl x then ((Sum.inl p.1 : Key), PyData.int a) else ((Sum.inl p.1 : Key), PyData.int p.2)) = _
    by_cases e : p.1 = x
    · have e' : (Sum.inl p.1 : Key) = .inl x := congrArg Sum.inl e
      simp [e]
    · have e' : ¬ (Sum.inl p.1 : Key) = .inl x := fun h => e (Sum.inl.inj h)
      simp [e]
  · unfold kvI
    rw [List.map_append]; rfl
theorem lkD_kvI (st : List (Int × Int)) (x : Int) : lkD (kvI st) (.inl x) = ((st.find? fun p => decide (p.1 = x)).map (·.2)).map PyData.int := by
  unfold lkD kvI
  induction st with
  | nil => rfl
  | cons p st ih =>
    rw [List.map_cons, List.find?_cons, List.find?_cons]
    by_cases e : p.1 = x
    · have e' : decide ((Sum.inl p.1 : Key) = .inl x) = true := decide_eq_true (congrArg Sum.inl e)
      rw [e', decide_eq_true e]; rfl
    · have e' : decide ((Sum.inl p.1 : Key) = .inl x) = false := decide_eq_false fun h => e (Sum.inl.inj h)
      rw [e', decide_eq_false e]; exact ih
/-- the variables of d stand for names below n -/
def Std (n : Nat) (d : List Int) (st : List (Int × Int)) : Prop := ∀ x ∈ d, ∃ a, (st.find? fun p => decide (p.1 = x)).map (·.2) = some a ∧ 0 ≤ a ∧ a < n
theorem Std.lk {n : Nat} {d : List Int} {st : List (Int × Int)} (h : Std n d st) {x : Int} (hx : x ∈ d) : lkD (kvI st) (.inl x) = some (.int (atS st x)) ∧ 0 ≤ atS st x ∧ atS st x < n := by
  obtain ⟨a, ha, h0, h1⟩ := h x hx
  have e : atS st x = a := by unfold atS; rw [ha]; rfl
  rw [lkD_kvI, ha, e]
  exact ⟨rfl, h0, h1⟩
theorem putI_find (st : List (Int × Int)) (x a y : Int) : ((putI st x a).find? fun p => decide (p.1 = y)).map (·.2) = if x = y then some a else (st.find? fun p => decide (p.1 = y)).map (·.2) := by
  have h := lkD_put (s := kvI st) (k := .inl x) (k' := .inl y) (d := .int a)
  rw [kvI_putI, lkD_kvI, lkD_kvI] at h
  by_cases e : x = y
  · rw [if_pos (congrArg Sum.inl e)] at h
    rw [if_pos e]
    cases q : ((putI st x a).find? fun p => decide (p.1 = y)).map (·.2) with
    | none => rw [q] at h; cases h
    | some z => rw [q] at h; injection h with h; injection h with h; rw [h]
  · rw [if_neg fun h => e (Sum.inl.inj h)] at h
    rw [if_neg e]
    cases q : ((putI st x a).find? fun p => decide (p.1 = y)).map (·.2) <;> cases q2 : (st.find? fun p => decide (p.1 = y)).map (·.2) <;> rw [q, q2] at h
    · cases h
    · cases h
    · injection h with h; injection h with h; rw [h]
theorem Std.put {n : Nat} {d : List Int} {st : List (Int × Int)} (h : Std n d st) (x : Int) {a : Int} (h0 : 0 ≤ a) (h1 : a < n) : Std n (x :: d) (putI st x a) := fun y hy => by
  rw [putI_find]
  by_cases e : x = y
  · rw [if_pos e]; exact ⟨a, rfl, h0, h1⟩
  · rw [if_neg e]
    rcases List.mem_cons.mp hy with q | q
    · exact absurd q.symm e
    · exact h y q
theorem putI_len (st : List (Int × Int)) (x a : Int) : (putI st x a).length ≤ st.length + 1 := by
  unfold putI
  split <;> simp
end G

set_option Elab.async false
set_option linter.all false
set_option maxRecDepth 100000
set_option maxHeartbeats 4000000
/- the law of Paley webs, walked -/
namespace G
open PySem L2 PySem.Spec PyProof.Rows
abbrev nLaw : List Str := ["script", "source", "q", "web", "due", "arrows", "add", "by", "is_square", "a", "b", "name", "look", "both", "just", "is_tied", "arrow", "x", "one"]
theorem scLaw : FnScope nLaw ["script"] (defScope sLaw) := ⟨rfl, rfl, rfl, by decide +kernel, rfl, by decide +kernel, by decide +kernel⟩
/-- all that the law leans on -/
structure Txt (K : PySem.W.Frag) (mg : Str → Option Value) (f1 f2 f3 f4 f5 f6 f7 f8 f9 f10 f11 f12 f13 f14 : Addr) (fd1 fd2 fd3 fd4 fd5 fd6 fd7 fd8 fd9 fd10 fd11 fd12 fd13 fd14 : FuncData) : Prop extends Bt mg where
  wt : Df K mg "web_of_ties" s_web_of_ties f1 fd1 ["n", "ties"]
  pw : Df K mg "paley_web" s_paley_web f2 fd2 ["q"]
  mb : Df K mg "is_met_by" s_is_met_by f3 fd3 ["web", "row", "pattern", "name"]
  mn : Df K mg "meeting_names" s_meeting_names f4 fd4 ["web", "row", "pattern"]
  im : Df K mg "is_met" s_is_met f5 fd5 ["web", "row", "pattern"]
  rn : Df K mg "rows_of_names" s_rows_of_names f6 fd6 ["n", "many"]
  apt : Df K mg "all_patterns" s_all_patterns f7 fd7 ["many"]
  mw : Df K mg "missing_wish" s_missing_wish f8 fd8 ["web", "k"]
  src : Df K mg "_law_source" sSrc f9 fd9 ["script"]
  pick : Df K mg "_law_pick" sPick f10 fd10 ["source", "many"]
  of : Df K mg "_law_of" s__law_of f11 fd11 ["source", "some"]
  mix : Df K mg "_law_mixed" sAny f12 fd12 ["source", "things"]
  lot : Df K mg "_law_of_ties" s__law_of_ties f13 fd13 ["n", "ties"]
  lpa : Df K mg "_law_paley" s__law_paley f14 fd14 ["q"]
theorem dw_orL {X : Cx} {ρ ρ1 ρ2 : Env'} {a b : Expr} {pos : Pos} {es : List Expr} {y : Bool} (h : DT X ρ a false ρ1) (h1 : DW X ρ1 (.BoolOp .Or (b :: es) pos) y ρ2) : DW X ρ (.BoolOp .Or (a :: b :: es) pos) y ρ2 := by
  have q := dw_or (y := y) h (fun _ => h1) (fun z => nomatch z)
  rwa [Bool.false_or] at q
theorem de_isN7 {X : Cx} {ρ ρ1 : Env'} {a : Expr} {pos : Pos} {x : PyData} {j pos'} (ha : DE X ρ a (.d x) ρ1) : DE X ρ (.Compare a [.Is] [.Constant .none j pos'] pos) (.d (.bool (isNon x))) ρ1 :=
  de_cmp op_isN (fun F Z B H σ Q v1 v2 k w1 w2 q => by
    cases w2
    exact ⟨rfl, q _ B H k (Sub.refl B) (by rw [dp_non w1]; exact .bl _)⟩) (nomark _) ha de_non
theorem names_nd7 (n : Nat) : (names n).Nodup := by
  unfold names
  refine List.pairwise_map.mpr (List.Pairwise.imp (fun h e => h ?_) List.nodup_range)
  exact Int.ofNat.inj e
theorem pal_few {q : Nat} (h : palQ q) : (palT q).length ≤ 400 := by
  rcases h with rfl | rfl | rfl | rfl <;> decide +kernel
theorem pal_arr {q : Nat} (h : palQ q) : (palW q).arr.length ≤ 800 := by
  show (srtP (tieL (palT q))).length ≤ 800
  have := pal_few h
  rw [srtP_len]
  unfold tieL
  rw [List.length_append, List.length_map]; omega
theorem pal_ins {q : Nat} : ∀ p ∈ (palW q).arr, p.1 ∈ names q ∧ p.2 ∈ names q := fun p hp => by
  obtain ⟨a, b⟩ := p
  rcases tie_mem.mp hp with h | h
  · obtain ⟨h1, h2, h3, _⟩ := palT_mem.mp h
    have := mem_names.mp h1
    exact ⟨h1, mem_names.mpr ⟨by omega, h3⟩⟩
  · obtain ⟨h1, h2, h3, _⟩ := palT_mem.mp h
    have := mem_names.mp h1
    exact ⟨mem_names.mpr ⟨by omega, h3⟩, h1⟩
theorem bd_pal {q : Nat} (h : palQ q) : Bd 500000 3 (wbD (palW q)) := by
  have p := pal_pos h
  have nat : ∀ {i : Int}, i ∈ names q → Bd 10 0 (.int i) := fun hi => by
    have := mem_names.mp hi
    exact bd_nat (by omega) (by omega)
  have b1 : Bd 1000 2 (.int q) := (bd_nat (i := (q : Int)) (by omega) (by omega)).mono (by omega) (by omega)
  have b2 : Bd 10000 2 (.tuple ((palW q).col.map .int)) := (bd_tup (m := 10) (d := 0) fun x hx => by
    obtain ⟨i, hi, rfl⟩ := List.mem_map.mp hx
    rw [List.eq_of_mem_replicate hi]
    exact bd_nat (by omega) (by omega)).mono (by
      show (((List.replicate q (0 : Int)).map PyData.int).length) * 12 + 3 ≤ 10000
      rw [List.length_map, List.length_replicate]; omega) (by omega)
  have b3 : Bd 100000 2 (.tuple (((palW q).arr.map pK).map NestedKey.data)) := (bd_tup (m := 27) (d := 1) fun x hx => by
    rw [List.map_map] at hx
    obtain ⟨z, hz, rfl⟩ := List.mem_map.mp hx
    obtain ⟨z1, z2⟩ := pal_ins z hz
    exact (bd_tup (m := 10) (d := 0) (xs := [.int z.1, .int z.2]) fun y hy => by
      simp only [List.mem_cons, List.not_mem_nil, or_false] at hy
      rcases hy with rfl | rfl
      · exact nat z1
      · exact nat z2)).mono (by
      have := pal_arr h
      rw [List.length_map, List.length_map]; omega) (by omega)
  exact (bd_tup (m := 100000) (d := 2) (xs := [_, _, _]) fun y hy => by
    simp only [List.mem_cons, List.not_mem_nil, or_false] at hy
    rcases hy with rfl | rfl | rfl
    · exact b1.mono (by omega) (by omega)
    · exact b2.mono (by omega) (by omega)
    · exact b3).mono (by simp only [List.length_cons, List.length_nil]; omega) (by omega)
def arK (q : Nat) : List (NestedKey × PyData) := putAllN [] ((palW q).arr.map fun p => (pK p, PyData.int 0))
theorem arK_in {q : Nat} (h : palQ q) {a b : Int} (ha : a ∈ names q) (hb : b ∈ names q) : decide (pK (a, b) ∈ (arK q).map (·.1)) = adjP q a b := by
  have e0 := putAll_const (.int 0) ((palW q).arr.map pK) []
  rw [List.map_map] at e0
  have e1 : (arK q).map (·.1) = ((palW q).arr.map pK).foldl addK [] := by
    unfold arK
    rw [show (palW q).arr.map (fun p => (pK p, PyData.int 0)) = (palW q).arr.map ((fun k => (k, PyData.int 0)) ∘ pK) from rfl, show putAllN [] _ = _ from e0, List.map_map]
    exact List.map_id _
  rw [e1, Bool.eq_iff_iff, decide_eq_true_iff, mem_addAll, ← pal_adj h ha hb]
  constructor
  · rintro (h | h)
    · cases h
    · obtain ⟨z, hz, e⟩ := List.mem_map.mp h
      exact pK_inj e ▸ hz
  · exact fun h => .inr (List.mem_map_of_mem h)
theorem pal_casts {q : Nat} (h : palQ q) : ((q : Int) - 5) / 4 = ((q - 5) / 4 : Nat) ∧ ((q : Int) - 1) / 4 = ((q - 1) / 4 : Nat) ∧ ((q : Int) - 1) / 2 = ((q - 1) / 2 : Nat) := by
  rcases h with rfl | rfl | rfl | rfl <;> decide
theorem adjW_pal {q : Nat} (h : palQ q) : ∀ a ∈ names q, ∀ b ∈ names q, adjW (palW q) a b = adjP q a b := fun a ha b hb => by
  unfold adjW
  rw [Bool.eq_iff_iff, decide_eq_true_iff]
  exact pal_adj h ha hb
theorem optW_non (o : Option PyData) (h : ∀ d, o = some d → isNon d = false) : isNon (optW o) = o.isNone := by
  cases o with
  | none => rfl
  | some d => exact h d rfl
theorem findSome_get {α β : Type} {f : α → Option β} {P : β → Prop} (hf : ∀ x b, f x = some b → P b) : ∀ {l : List α} {b : β}, l.findSome? f = some b → P b
  | [], _, h => nomatch h
  | x :: l, b, h => by
    rw [List.findSome?_cons] at h
    cases e : f x with
    | none => rw [e] at h; exact findSome_get hf h
    | some c => rw [e] at h; cases h; exact hf x _ e
theorem miss_non {n : Nat} {f : Int → Int → Bool} {k : Nat} : ∀ d, missF n f k = some d → isNon d = false := fun d h => by
  unfold missF at h
  refine findSome_get (P := fun d => isNon d = false) (fun m b hb => findSome_get (P := fun d => isNon d = false) (fun r c hc => findSome_get (P := fun d => isNon d = false) (fun p e he => ?_) hc) hb) h
  split at he
  · cases he; rfl
  · cases he
theorem mem_mod {q : Nat} (h : palQ q) (x : Int) : x % (q : Int) ∈ names q := by
  have p := pal_pos h
  exact mem_names.mpr ⟨Int.emod_nonneg _ (by omega), Int.emod_lt_of_pos _ (by omega)⟩
def psLaw (ds : List PyData) (d : PyData) : Prop := ∃ ns : List Int, ns.length ≤ 63 ∧ ds = [.list (ns.map .int)] ∧ d = .bool true
section
variable {P : Program} {w : World} {K : PySem.W.Frag} {mg : Str → Option Value} {base : Heap}
theorem ok_law {f f1 f2 f3 f4 f5 f6 f7 f8 f9 f10 f11 f12 f13 f14 : Addr} {fd fd1 fd2 fd3 fd4 fd5 fd6 fd7 fd8 fd9 fd10 fd11 fd12 fd13 fd14 : FuncData} (Fn : Fun K "law" "law" sLaw f fd) (T : Txt K mg f1 f2 f3 f4 f5 f6 f7 f8 f9 f10 f11 f12 f13 f14 fd1 fd2 fd3 fd4 fd5 fd6 fd7 fd8 fd9 fd10 fd11 fd12 fd13 fd14) : FnG P w K mg base 6 f fd ["script"] (spP K psLaw) := by
  have gSrc := ok_src (P := P) (w := w) (base := base) T.src T.toBt
  have gPk := ok_pkA (P := P) (w := w) (base := base) T.pick T.toBt
  have gOf := ok_ofXA (P := P) (w := w) (base := base) T.of T.pick T.toBt
  have gMx := ok_mixXA (P := P) (w := w) (base := base) T.mix T.pick T.toBt
  have gPw := ok_pw (P := P) (w := w) (base := base) T.pw T.wt T.toBt
  have gLp := ok_lpa (P := P) (w := w) (base := base) T.lpa T.lot T.toBt
  have gMw := ok_mw (P := P) (w := w) (base := base) T.mw T.rn T.apt T.im T.mn T.mb T.toBt
  refine fnM_of Fn scLaw (fun ds d ⟨_, _, e, _⟩ => by rw [e]; rfl) ?_
  rintro cdv A outer s H E ds d hg hr ⟨ns, hl, rfl, rfl⟩
  have hu : (A.deeper (envOfC "law" (defScope sLaw) s.heap.objs.size f cdv)).units + 100 < cLine := by have := hr.un; omega
  have hw := Nat.lt_of_le_of_lt (Nat.add_le_add_left (by decide : 64 ≤ 100) _) hu
  have hw5 := Nat.lt_of_le_of_lt (Nat.add_le_add_left (by decide : 65 ≤ 100) _) hu
  have z1 : (100000 : Nat) ≤ sizeLine := by decide
  refine dm_setSrc (i := 1) gSrc hg (hr.mono (by omega)) T.src.mg T.src.kp T.src.bd (ds := [.list (ns.map .int)]) ⟨ns, hl, rfl, rfl⟩ scLaw.nd (da_cons (nv 0) da_nil) fun sa => ?_
  refine dm_go (J := fun ρ => ∃ (s : Src) (q : Nat), palQ q ∧ ρ = [.d (.list (ns.map .int)), .o (.src sa s), .d (.int q), .un, .un, .un, .un, .un, .un, .un, .un, .un, .un, .un, .un, .un, .un, .un, .un]) (sm_set (i := 2) scLaw.nd (em_callX (i := 1) gOf hg (hr.mono (by omega)) T.of.mg T.of.kp T.of.bd (ds := [.list [.int 5, .int 13, .int 17, .int 29]]) ⟨_, by decide, by decide, rfl, rfl⟩ (ow 1) (da_cons (DL.de (dl_lst (da_cons de_int (da_cons de_int (da_cons de_int (da_cons de_int da_nil)))))) da_nil) (fun d s9 hd => ?_))) ?_
  · simp only [List.mem_cons, List.not_mem_nil, or_false] at hd
    rcases hd with rfl | rfl | rfl | rfl
    · exact ⟨_, rfl, _, rfl, s9, 5, .inl rfl, rfl⟩
    · exact ⟨_, rfl, _, rfl, s9, 13, .inr (.inl rfl), rfl⟩
    · exact ⟨_, rfl, _, rfl, s9, 17, .inr (.inr (.inl rfl)), rfl⟩
    · exact ⟨_, rfl, _, rfl, s9, 29, .inr (.inr (.inr rfl)), rfl⟩
  rintro _ ⟨s1, q, hq, rfl⟩
  have pq := pal_pos hq
  have shW := (bd_pal hq).all
  have la := pal_arr hq
  have pc := pal_casts hq
  have kin := kin_pairs (palW q).arr
  refine dm_cons (ds_par (i := 3) (j := 4) (d1 := wbD (palW q)) (d2 := wbD (palW q)) (ρ1 := [.d (.list (ns.map .int)), .o (.src sa s1), .d (.int q), .un, .un, .un, .un, .un, .un, .un, .un, .un, .un, .un, .un, .un, .un, .un, .un]) rfl scLaw.nd (da_cons (de_callP gPw hg (hr.mono (by omega)) T.pw.mg T.pw.kp T.pw.bd (ds := [.int q]) (d := wbD (palW q)) ⟨q, by omega, by omega, rfl, rfl⟩ (da_cons (nv 2) da_nil)) (da_cons (de_callP gLp hg (hr.mono (by omega)) T.lpa.mg T.lpa.kp T.lpa.bd (ds := [.int q]) (d := wbD (palW q)) ⟨q, by omega, by omega, rfl, rfl⟩ (da_cons (nv 2) da_nil)) da_nil))) ?_
  refine dm_at [.d (.list (ns.map .int)), .o (.src sa s1), .d (.int q), .d (wbD (palW q)), .d (wbD (palW q)), .un, .un, .un, .un, .un, .un, .un, .un, .un, .un, .un, .un, .un, .un] rfl ?_
  refine dm_ifF (ρ1 := [.d (.list (ns.map .int)), .o (.src sa s1), .d (.int q), .d (wbD (palW q)), .d (wbD (palW q)), .un, .un, .un, .un, .un, .un, .un, .un, .un, .un, .un, .un, .un, .un]) (dt_neSame (de_repr hg hu shW.1 shW.2.1 shW.2.2 T.repr_ (nv 3)) (de_repr hg hu shW.1 shW.2.1 shW.2.2 T.repr_ (nv 4))) ?_
  refine dm_cons (ds_setDn (i := 5) (kvs := arK q) (ρ1 := [.d (.list (ns.map .int)), .o (.src sa s1), .d (.int q), .d (wbD (palW q)), .d (wbD (palW q)), .un, .un, .un, .un, .un, .un, .un, .un, .un, .un, .un, .un, .un, .un]) scLaw.nd (dd_pairs (kvs := (palW q).arr.map fun p => (pK p, PyData.int 0)) rfl hu (DL.ld (dl_is ?_ (dl_mapA (palW q).arr prD (fun p => .tuple [prD p, .int 0]) [("arrow", 16)] rfl scLaw.nd (blkOk_by (N := nLaw) (sc := defScope sLaw) (by decide +kernel)) (di_arr (W := palW q) (nv 3)) (by (intro j hj; first | (cases hj with | head => rfl | tail _ h => cases h) | (cases hj with | head => rfl | tail _ h => cases h with | head => rfl | tail _ h => cases h) | (cases hj with | head => rfl | tail _ h => cases h with | head => rfl | tail _ h => cases h with | head => rfl | tail _ h => cases h))) (fun p hp => ⟨_, _, _, fun _ _ _ _ _ => dg_name (i := 16) scLaw.nd, fun _ _ _ _ _ => (de_tup (da_cons (nv 16) (da_cons de_int da_nil))), by simp, by first | exact G.Wk.refl _ | (repeat (first | exact G.Wk.nil | apply G.Wk.cons | apply G.Wk.drop))⟩) (by omega)))) (fun p hp => ?_) (by rw [List.length_map]; omega) T.dict_)) ?_
  · rw [List.map_map]; rfl
  · obtain ⟨z, hz, rfl⟩ := List.mem_map.mp hp
    exact ⟨kin.dep _ (List.mem_map_of_mem hz), _, rfl⟩
  refine dm_at [.d (.list (ns.map .int)), .o (.src sa s1), .d (.int q), .d (wbD (palW q)), .d (wbD (palW q)), .o (.dn w (arK q)), .un, .un, .un, .un, .un, .un, .un, .un, .un, .un, .un, .un, .un] rfl ?_
  refine dm_go (J := fun ρ => ∃ (s : Src) (ad c : Int), c ∈ upN q 0 ∧ 0 ≤ ad ∧ ad < 100 ∧ ρ = [.d (.list (ns.map .int)), .o (.src sa s), .d (.int q), .d (wbD (palW q)), .d (wbD (palW q)), .o (.dn w (arK q)), .d (.int ad), .d (.int c), .un, .un, .un, .un, .un, .un, .un, .un, .un, .un, .un]) (sm_par (i := 6) (j := 7) rfl scLaw.nd (am_cons (em_callX (i := 1) gPk hg (hr.mono (by omega)) T.pick.mg T.pick.kp T.pick.bd (ds := [.int q]) ⟨(q : Int), by omega, by omega, rfl, rfl⟩ (ow 1) (da_cons (nv 2) da_nil) (fun d s9 ⟨ad, a0, a1, e⟩ => by subst e; exact ⟨_, rfl, am_cons (em_addR de_int (em_callX (i := 1) gPk hg (hr.mono (by omega)) T.pick.mg T.pick.kp T.pick.bd (ds := [.int ((q : Int) - 1)]) ⟨(q : Int) - 1, by omega, by omega, rfl, rfl⟩ (ow 1) (da_cons (de_sub (nv 2) de_int) da_nil) (fun d s10 ⟨c, c0, c1, e2⟩ => by subst e2; exact ⟨c, rfl, _, rfl, am_nil ⟨_, _, rfl, _, rfl, s10, ad, 1 + c, (up_iff (by omega)).mpr ⟨by omega, by omega⟩, a0, by omega, rfl⟩⟩)))⟩)))) ?_
  rintro _ ⟨s2, ad, c, hc, ad0, ad1, rfl⟩
  have c0 := upN_in (by omega) hc
  have eS : sqB q c = decide (c ∈ sqL q) := by
    unfold sqB
    rw [Int.emod_eq_of_lt (by omega) (by omega)]
  refine dm_cons (ds_set (i := 8) (y := .bool (sqB q c)) (ρ1 := [.d (.list (ns.map .int)), .o (.src sa s2), .d (.int q), .d (wbD (palW q)), .d (wbD (palW q)), .o (.dn w (arK q)), .d (.int ad), .d (.int c), .un, .un, .un, .un, .un, .un, .un, .un, .un, .un, .un]) scLaw.nd (de_is (de_inL hw5 sx_int.sh (ints_shT (sqL q)) (nv 7) (DL.de (dl_is (by unfold sqL; rw [List.map_map]; rfl) (dl_mapA (upN q 0) .int (fun x => .int (x * x % (q : Int))) [("x", 17)] rfl scLaw.nd (blkOk_by (N := nLaw) (sc := defScope sLaw) (by decide +kernel)) (di_is (upN_D q (by omega)) (di_range2 (m := (0 : Int) + 1) (n := q) T.range_ (by omega) (da_cons de_int (da_cons (nv 2) da_nil)))) (by (intro j hj; first | (cases hj with | head => rfl | tail _ h => cases h) | (cases hj with | head => rfl | tail _ h => cases h with | head => rfl | tail _ h => cases h) | (cases hj with | head => rfl | tail _ h => cases h with | head => rfl | tail _ h => cases h with | head => rfl | tail _ h => cases h))) (fun x hx => ?_) (by have := upN_len q 0; omega))))) (by rw [any_ints, eS]))) ?_
  · have := upN_in (by omega) hx
    exact ⟨_, _, _, fun _ _ _ _ _ => dg_name (i := 17) scLaw.nd, fun _ _ _ _ _ => de_mod (by omega) (de_intI T.int_ (de_mul (.inl (by omega)) (nv 17) (nv 17))) (nv 2), by simp, by first | exact G.Wk.refl _ | (repeat (first | exact G.Wk.nil | apply G.Wk.cons | apply G.Wk.drop))⟩
  refine dm_at [.d (.list (ns.map .int)), .o (.src sa s2), .d (.int q), .d (wbD (palW q)), .d (wbD (palW q)), .o (.dn w (arK q)), .d (.int ad), .d (.int c), .d (.bool (sqB q c)), .un, .un, .un, .un, .un, .un, .un, .un, .un, .un] rfl ?_
  refine dm_forM (fun xs _ ρ => ∃ s : Src, (∀ x ∈ xs, ∃ p ∈ (palW q).arr, x = prD p) ∧ ρ = [.d (.list (ns.map .int)), .o (.src sa s), .d (.int q), .d (wbD (palW q)), .d (wbD (palW q)), .o (.dn w (arK q)), .d (.int ad), .d (.int c), .d (.bool (sqB q c)), .un, .un, .un, .un, .un, .un, .un, .un, .un, .un]) PassesOwn.never rfl (em_slL (i := none) (j := some 40) (em_callX (i := 1) gMx hg (hr.mono (by omega)) T.mix.mg T.mix.kp T.mix.bd (ds := [.tuple (((palW q).arr.map pK).map NestedKey.data)]) ⟨((palW q).arr.map pK).map NestedKey.data, _, .inr rfl, by rw [List.length_map, List.length_map]; omega, rfl, rfl⟩ (ow 1) (da_cons (de_w2 (W := palW q) (nv 3)) da_nil) (fun d s9 ⟨ys, hp, e⟩ => ⟨ys, _, _, by rw [e], do_none, do_some de_int, _, rfl, s9, fun x hx => ?_, rfl⟩))) (fun xs k x ρa hx hI => ?_) (fun xs ρ2 hI => ?_)
  · rw [show (40 : Int) = ((40 : Nat) : Int) from rfl, cutD_to] at hx
    have hx := hp.mem_iff.mp (List.mem_of_mem_take hx)
    rw [List.map_map] at hx
    obtain ⟨z, hz, rfl⟩ := List.mem_map.mp hx
    exact ⟨z, hz, rfl⟩
  · obtain ⟨s3, hj, rfl⟩ := hI
    obtain ⟨⟨a, b⟩, hp, rfl⟩ := hj x (List.mem_of_getElem? hx)
    obtain ⟨ha, hb⟩ := pal_ins _ hp
    have ha' := mem_names.mp ha
    have hb' := mem_names.mp hb
    have tied : adjP q a b = true := (pal_adj hq ha hb).mp hp
    refine ⟨_, _, (dg_tup rfl (dgs_cons (dg_name (i := 9) scLaw.nd) (dgs_cons (dg_name (i := 10) scLaw.nd) dgs_nil))), ?_⟩
    refine dm_at [.d (.list (ns.map .int)), .o (.src sa s3), .d (.int q), .d (wbD (palW q)), .d (wbD (palW q)), .o (.dn w (arK q)), .d (.int ad), .d (.int c), .d (.bool (sqB q c)), .d (.int a), .d (.int b), .un, .un, .un, .un, .un, .un, .un, .un] rfl ?_
    refine dm_ifF (ρ1 := [.d (.list (ns.map .int)), .o (.src sa s3), .d (.int q), .d (wbD (palW q)), .d (wbD (palW q)), .o (.dn w (arK q)), .d (.int ad), .d (.int c), .d (.bool (sqB q c)), .d (.int a), .d (.int b), .un, .un, .un, .un, .un, .un, .un, .un]) (dt_is (dt_notInN (k := pK ((a + ad) % (q : Int), (b + ad) % (q : Int))) hu ⟨_, rfl⟩ (Nat.le_trans (pK_depth _) (by decide)) (de_tup (da_cons (show DE _ _ _ (.d (.int ((a + ad) % (q : Int)))) _ from de_mod (by omega) (de_intI T.int_ (de_add (nv 9) (nv 6))) (nv 2)) (da_cons (show DE _ _ _ (.d (.int ((b + ad) % (q : Int)))) _ from de_mod (by omega) (de_intI T.int_ (de_add (nv 10) (nv 6))) (nv 2)) da_nil))) (ow 5)) (by rw [arK_in hq (mem_mod hq _) (mem_mod hq _), adj_add hq, tied]; rfl)) ?_
    refine dm_ifF (ρ1 := [.d (.list (ns.map .int)), .o (.src sa s3), .d (.int q), .d (wbD (palW q)), .d (wbD (palW q)), .o (.dn w (arK q)), .d (.int ad), .d (.int c), .d (.bool (sqB q c)), .d (.int a), .d (.int b), .un, .un, .un, .un, .un, .un, .un, .un]) (dt_is (dt_neB (de_inN (k := pK ((a * c) % (q : Int), (b * c) % (q : Int))) hu ⟨_, rfl⟩ (Nat.le_trans (pK_depth _) (by decide)) (de_tup (da_cons (show DE _ _ _ (.d (.int ((a * c) % (q : Int)))) _ from de_mod (by omega) (de_intI T.int_ (de_mul (.inl (by omega)) (nv 9) (nv 7))) (nv 2)) (da_cons (show DE _ _ _ (.d (.int ((b * c) % (q : Int)))) _ from de_mod (by omega) (de_intI T.int_ (de_mul (.inl (by omega)) (nv 10) (nv 7))) (nv 2)) da_nil))) (ow 5)) (nv 8)) (by rw [arK_in hq (mem_mod hq _) (mem_mod hq _), adj_mul hq hc tied, decide_eq_true rfl]; rfl)) ?_
    exact dm_end [.d (.list (ns.map .int)), .o (.src sa s3), .d (.int q), .d (wbD (palW q)), .d (wbD (palW q)), .o (.dn w (arK q)), .d (.int ad), .d (.int c), .d (.bool (sqB q c)), .un, .un, .un, .un, .un, .un, .un, .un, .un, .un] ⟨_, rfl, s3, hj, rfl⟩ (by first | exact G.Wk.refl _ | (repeat (first | exact G.Wk.nil | apply G.Wk.cons | apply G.Wk.drop)))
  obtain ⟨s3, _, rfl⟩ := hI
  refine dm_cons (ds_for PassesOwn.never rfl (di_names (n := q) T.range_ (by omega) (nv 2)) (fun _ => [.d (.list (ns.map .int)), .o (.src sa s3), .d (.int q), .d (wbD (palW q)), .d (wbD (palW q)), .o (.dn w (arK q)), .d (.int ad), .d (.int c), .d (.bool (sqB q c)), .un, .un, .un, .un, .un, .un, .un, .un, .un, .un]) (Wk.refl _) (fun k z hz => ?_) (ρ2 := [.d (.list (ns.map .int)), .o (.src sa s3), .d (.int q), .d (wbD (palW q)), .d (wbD (palW q)), .o (.dn w (arK q)), .d (.int ad), .d (.int c), .d (.bool (sqB q c)), .un, .un, .un, .un, .un, .un, .un, .un, .un, .un]) rfl) ?_
  · rw [← names_D] at hz
    obtain ⟨hk, rfl⟩ := range_get hz
    have hn : ((k : Nat) : Int) ∈ names q := mem_names.mpr ⟨by omega, by omega⟩
    refine ⟨_, _, dg_name (i := 11) scLaw.nd, ?_⟩
    refine db_at [.d (.list (ns.map .int)), .o (.src sa s3), .d (.int q), .d (wbD (palW q)), .d (wbD (palW q)), .o (.dn w (arK q)), .d (.int ad), .d (.int c), .d (.bool (sqB q c)), .un, .un, .d (.int (k : Nat)), .un, .un, .un, .un, .un, .un, .un] rfl ?_
    refine db_ifF (ρ1 := [.d (.list (ns.map .int)), .o (.src sa s3), .d (.int q), .d (wbD (palW q)), .d (wbD (palW q)), .o (.dn w (arK q)), .d (.int ad), .d (.int c), .d (.bool (sqB q c)), .un, .un, .d (.int (k : Nat)), .un, .un, .un, .un, .un, .un, .un]) (dt_is (dt_neI (de_len (.l .d) T.len_ (DL.de (dl_filtA (names q) .int .int (adjP q (k : Int)) [("one", 18)] rfl scLaw.nd (blkOk_by (N := nLaw) (sc := defScope sLaw) (by decide +kernel)) (di_names (n := q) T.range_ (by omega) (nv 2)) (by (intro j hj; first | (cases hj with | head => rfl | tail _ h => cases h) | (cases hj with | head => rfl | tail _ h => cases h with | head => rfl | tail _ h => cases h) | (cases hj with | head => rfl | tail _ h => cases h with | head => rfl | tail _ h => cases h with | head => rfl | tail _ h => cases h))) (fun x hx => ⟨_, _, _, _, fun _ _ _ _ _ => dg_name (i := 18) scLaw.nd, fun _ _ _ _ _ => dt_is (dt_inN (k := pK ((k : Int), x)) hu ⟨_, rfl⟩ (Nat.le_trans (pK_depth _) (by decide)) (de_tup (da_cons (nv 11) (da_cons (nv 18) da_nil))) (ow 5)) (arK_in hq hn hx), fun _ _ _ _ _ _ => (nv 18), by simp, by first | exact G.Wk.refl _ | (repeat (first | exact G.Wk.nil | apply G.Wk.cons | apply G.Wk.drop)), by first | exact G.Wk.refl _ | (repeat (first | exact G.Wk.nil | apply G.Wk.cons | apply G.Wk.drop))⟩) (by rw [names_len]; omega)))) (de_fdiv (i := (q : Int) - 1) (j := 2) ⟨by omega, by omega⟩ (de_sub (nv 2) de_int) de_int)) (by rw [List.length_map, pal_deg hq _ hn, pc.2.2, decide_eq_true rfl]; rfl)) ?_
    exact db_end (by first | exact G.Wk.refl _ | (repeat (first | exact G.Wk.nil | apply G.Wk.cons | apply G.Wk.drop)))
  refine dm_for (fun _ ρ => ∃ s : Src, ρ = [.d (.list (ns.map .int)), .o (.src sa s), .d (.int q), .d (wbD (palW q)), .d (wbD (palW q)), .o (.dn w (arK q)), .d (.int ad), .d (.int c), .d (.bool (sqB q c)), .un, .un, .un, .un, .un, .un, .un, .un, .un, .un]) PassesOwn.never rfl (di_range (n := 8) T.range_ (by omega) (da_cons de_int da_nil)) ⟨_, rfl⟩ (fun i x0 ρa hx hI => ?_) (fun ρ2 hI => ?_)
  · obtain ⟨hi, rfl⟩ := range_get (n := 8) hx
    obtain ⟨s4, rfl⟩ := hI
    refine ⟨_, _, dg_name (i := 12) scLaw.nd, ?_⟩
    refine dm_at [.d (.list (ns.map .int)), .o (.src sa s4), .d (.int q), .d (wbD (palW q)), .d (wbD (palW q)), .o (.dn w (arK q)), .d (.int ad), .d (.int c), .d (.bool (sqB q c)), .un, .un, .un, .d (.int (i : Nat)), .un, .un, .un, .un, .un, .un] rfl ?_
    refine dm_go (J := fun ρ => ∃ (s : Src) (a b : Int), a ∈ names q ∧ b ∈ names q ∧ a ≠ b ∧ ρ = [.d (.list (ns.map .int)), .o (.src sa s), .d (.int q), .d (wbD (palW q)), .d (wbD (palW q)), .o (.dn w (arK q)), .d (.int ad), .d (.int c), .d (.bool (sqB q c)), .d (.int a), .d (.int b), .un, .d (.int (i : Nat)), .un, .un, .un, .un, .un, .un]) (sm_asg (em_slL (i := none) (j := some 2) (em_callX (i := 1) gMx hg (hr.mono (by omega)) T.mix.mg T.mix.kp T.mix.bd (ds := [.list ((names q).map .int)]) ⟨(names q).map .int, _, .inl rfl, by rw [List.length_map, names_len]; omega, rfl, rfl⟩ (ow 1) (da_cons (DL.de (dl_is (names_D q) (dl_listRg (n := q) rfl T.list_ T.range_ (by omega) (nv 2)))) da_nil) (fun d s9 ⟨ys, hp, e⟩ => ?_)))) ?_
    · obtain ⟨p, pp, rfl⟩ := perm_ints hp
      have pl : p.length = q := pp.length_eq.trans (names_len _)
      have nd : p.Nodup := pp.nodup_iff.mpr (names_nd7 q)
      match p, pp, pl, nd with
      | x :: y :: r, pp, pl, nd =>
        have ne : x ≠ y := fun e => (List.nodup_cons.mp nd).1 (e ▸ List.mem_cons_self)
        refine ⟨_, _, _, (by rw [e]), do_none, do_some de_int, .list [.int x, .int y], _, _, ?_, dg_lst rfl (dgs_cons (dg_name (i := 9) scLaw.nd) (dgs_cons (dg_name (i := 10) scLaw.nd) dgs_nil)) rfl, _, rfl, s9, x, y, pp.mem_iff.mp List.mem_cons_self, pp.mem_iff.mp (List.mem_cons_of_mem _ List.mem_cons_self), ne, rfl⟩
        rw [show (2 : Int) = ((2 : Nat) : Int) from rfl, cutD_to]; rfl
      | [x], pp, pl, _ => exact absurd pl (by simp only [List.length_cons, List.length_nil]; omega)
      | [], pp, pl, _ => exact absurd pl (by simp only [List.length_nil]; omega)
    rintro _ ⟨s5, a, b, ha, hb, ne, rfl⟩
    obtain ⟨t1, t2⟩ := pal_two hq a ha b hb ne
    refine dm_cons (ds_set (i := 13) (y := .int (((names q).filter fun x => adjP q a x && adjP q b x).length : Nat)) (ρ1 := [.d (.list (ns.map .int)), .o (.src sa s5), .d (.int q), .d (wbD (palW q)), .d (wbD (palW q)), .o (.dn w (arK q)), .d (.int ad), .d (.int c), .d (.bool (sqB q c)), .d (.int a), .d (.int b), .un, .d (.int (i : Nat)), .un, .un, .un, .un, .un, .un]) scLaw.nd (de_is (de_len (.l .d) T.len_ (DL.de (dl_filtA (names q) .int .int (fun x => adjP q a x && adjP q b x) [("one", 18)] rfl scLaw.nd (blkOk_by (N := nLaw) (sc := defScope sLaw) (by decide +kernel)) (di_names (n := q) T.range_ (by omega) (nv 2)) (by (intro j hj; first | (cases hj with | head => rfl | tail _ h => cases h) | (cases hj with | head => rfl | tail _ h => cases h with | head => rfl | tail _ h => cases h) | (cases hj with | head => rfl | tail _ h => cases h with | head => rfl | tail _ h => cases h with | head => rfl | tail _ h => cases h))) (fun x hx => ⟨_, _, _, _, fun _ _ _ _ _ => dg_name (i := 18) scLaw.nd, fun _ _ _ _ _ => DW.dt (dw_and (dt_is (dt_inN (k := pK (a, x)) hu ⟨_, rfl⟩ (Nat.le_trans (pK_depth _) (by decide)) (de_tup (da_cons (nv 9) (da_cons (nv 18) da_nil))) (ow 5)) (arK_in hq ha hx)) (fun _ => dw_and1 (dt_is (dt_inN (k := pK (b, x)) hu ⟨_, rfl⟩ (Nat.le_trans (pK_depth _) (by decide)) (de_tup (da_cons (nv 10) (da_cons (nv 18) da_nil))) (ow 5)) (arK_in hq hb hx))) (fun _ => rfl)), fun _ _ _ _ _ _ => (nv 18), by simp, by first | exact G.Wk.refl _ | (repeat (first | exact G.Wk.nil | apply G.Wk.cons | apply G.Wk.drop)), by first | exact G.Wk.refl _ | (repeat (first | exact G.Wk.nil | apply G.Wk.cons | apply G.Wk.drop))⟩) (by rw [names_len]; omega)))) (by rw [List.length_map]))) ?_
    refine dm_cons (ds_set (i := 14) (y := .int (((names q).filter fun x => decide (x ≠ b) && (adjP q a x && !adjP q b x)).length : Nat)) (ρ1 := [.d (.list (ns.map .int)), .o (.src sa s5), .d (.int q), .d (wbD (palW q)), .d (wbD (palW q)), .o (.dn w (arK q)), .d (.int ad), .d (.int c), .d (.bool (sqB q c)), .d (.int a), .d (.int b), .un, .d (.int (i : Nat)), .d (.int (((names q).filter fun x => adjP q a x && adjP q b x).length : Nat)), .un, .un, .un, .un, .un]) scLaw.nd (de_is (de_len (.l .d) T.len_ (DL.de (dl_filtA (names q) .int .int (fun x => decide (x ≠ b) && (adjP q a x && !adjP q b x)) [("one", 18)] rfl scLaw.nd (blkOk_by (N := nLaw) (sc := defScope sLaw) (by decide +kernel)) (di_names (n := q) T.range_ (by omega) (nv 2)) (by (intro j hj; first | (cases hj with | head => rfl | tail _ h => cases h) | (cases hj with | head => rfl | tail _ h => cases h with | head => rfl | tail _ h => cases h) | (cases hj with | head => rfl | tail _ h => cases h with | head => rfl | tail _ h => cases h with | head => rfl | tail _ h => cases h))) (fun x hx => ⟨_, _, _, _, fun _ _ _ _ _ => dg_name (i := 18) scLaw.nd, fun _ _ _ _ _ => DW.dt (dw_and (dt_is (dt_neI (nv 18) (nv 10)) (by rw [decide_not])) (fun _ => dw_and (dt_is (dt_inN (k := pK (a, x)) hu ⟨_, rfl⟩ (Nat.le_trans (pK_depth _) (by decide)) (de_tup (da_cons (nv 9) (da_cons (nv 18) da_nil))) (ow 5)) (arK_in hq ha hx)) (fun _ => dw_and1 (dt_is (dt_notInN (k := pK (b, x)) hu ⟨_, rfl⟩ (Nat.le_trans (pK_depth _) (by decide)) (de_tup (da_cons (nv 10) (da_cons (nv 18) da_nil))) (ow 5)) (by rw [arK_in hq hb hx]))) (fun _ => rfl)) (fun _ => rfl)), fun _ _ _ _ _ _ => (nv 18), by simp, by first | exact G.Wk.refl _ | (repeat (first | exact G.Wk.nil | apply G.Wk.cons | apply G.Wk.drop)), by first | exact G.Wk.refl _ | (repeat (first | exact G.Wk.nil | apply G.Wk.cons | apply G.Wk.drop))⟩) (by rw [names_len]; omega)))) (by rw [List.length_map]))) ?_
    rw [t1, t2]
    refine dm_cons (ds_set (i := 15) (y := .bool (adjP q a b)) (ρ1 := [.d (.list (ns.map .int)), .o (.src sa s5), .d (.int q), .d (wbD (palW q)), .d (wbD (palW q)), .o (.dn w (arK q)), .d (.int ad), .d (.int c), .d (.bool (sqB q c)), .d (.int a), .d (.int b), .un, .d (.int (i : Nat)), .d (.int ((if adjP q a b = true then (q - 5) / 4 else (q - 1) / 4 : Nat) : Int)), .d (.int ((q - 1) / 4 : Nat)), .un, .un, .un, .un]) scLaw.nd (de_is (de_inN (k := pK (a, b)) hu ⟨_, rfl⟩ (Nat.le_trans (pK_depth _) (by decide)) (de_tup (da_cons (nv 9) (da_cons (nv 10) da_nil))) (ow 5)) (by rw [arK_in hq ha hb]))) ?_
    refine dm_at [.d (.list (ns.map .int)), .o (.src sa s5), .d (.int q), .d (wbD (palW q)), .d (wbD (palW q)), .o (.dn w (arK q)), .d (.int ad), .d (.int c), .d (.bool (sqB q c)), .d (.int a), .d (.int b), .un, .d (.int (i : Nat)), .d (.int ((if adjP q a b = true then (q - 5) / 4 else (q - 1) / 4 : Nat) : Int)), .d (.int ((q - 1) / 4 : Nat)), .d (.bool (adjP q a b)), .un, .un, .un] rfl ?_
    refine dm_ifF (ρ1 := [.d (.list (ns.map .int)), .o (.src sa s5), .d (.int q), .d (wbD (palW q)), .d (wbD (palW q)), .o (.dn w (arK q)), .d (.int ad), .d (.int c), .d (.bool (sqB q c)), .d (.int a), .d (.int b), .un, .d (.int (i : Nat)), .d (.int ((if adjP q a b = true then (q - 5) / 4 else (q - 1) / 4 : Nat) : Int)), .d (.int ((q - 1) / 4 : Nat)), .d (.bool (adjP q a b)), .un, .un, .un]) (DW.dt (dw_orL (dt_is (dt_neI (nv 13) (de_ifE (x := adjP q a b) (y := .int ((if adjP q a b = true then (q - 5) / 4 else (q - 1) / 4 : Nat) : Int)) (dt_val (nv 15)) (fun h => de_is (de_fdiv (i := (q : Int) - 5) (j := 4) ⟨by omega, by omega⟩ (de_sub (nv 2) de_int) de_int) (by rw [if_pos h, pc.1])) (fun h => de_is (de_fdiv (i := (q : Int) - 1) (j := 4) ⟨by omega, by omega⟩ (de_sub (nv 2) de_int) de_int) (by rw [if_neg (by rw [h]; decide), pc.2.1])))) (by rw [decide_eq_true rfl]; rfl)) (dw_or1 (dt_is (dt_neI (nv 14) (de_fdiv (i := (q : Int) - 1) (j := 4) ⟨by omega, by omega⟩ (de_sub (nv 2) de_int) de_int)) (by rw [pc.2.1, decide_eq_true rfl]; rfl))))) ?_
    exact dm_end [.d (.list (ns.map .int)), .o (.src sa s5), .d (.int q), .d (wbD (palW q)), .d (wbD (palW q)), .o (.dn w (arK q)), .d (.int ad), .d (.int c), .d (.bool (sqB q c)), .un, .un, .un, .un, .un, .un, .un, .un, .un, .un] ⟨_, rfl, s5, rfl⟩ (by first | exact G.Wk.refl _ | (repeat (first | exact G.Wk.nil | apply G.Wk.cons | apply G.Wk.drop)))
  obtain ⟨s4, rfl⟩ := hI
  refine dm_if (x := decide (17 < q)) (ρ1 := [.d (.list (ns.map .int)), .o (.src sa s4), .d (.int q), .d (wbD (palW q)), .d (wbD (palW q)), .o (.dn w (arK q)), .d (.int ad), .d (.int c), .d (.bool (sqB q c)), .un, .un, .un, .un, .un, .un, .un, .un, .un, .un]) (dt_is (dt_gt (nv 2) de_int) (decide_eq_decide.mpr (by omega))) (fun h => dm_ret (ρ1 := [.d (.list (ns.map .int)), .o (.src sa s4), .d (.int q), .d (wbD (palW q)), .d (wbD (palW q)), .o (.dn w (arK q)), .d (.int ad), .d (.int c), .d (.bool (sqB q c)), .un, .un, .un, .un, .un, .un, .un, .un, .un, .un]) de_bl ⟨⟨_, rfl⟩, fun _ z => nomatch z⟩) (fun h => ?_)
  have q17 : q ≤ 17 := by have := of_decide_eq_false h; omega
  have eM : ∀ k, isNon (optW (missF (palW q).n (adjW (palW q)) k)) = (missF q (adjP q) k).isNone := fun k => by
    rw [optW_non _ miss_non]
    show (missF q (adjW (palW q)) k).isNone = _
    rw [miss_congr (adjW_pal hq)]
  exact dm_ret (ρ1 := [.d (.list (ns.map .int)), .o (.src sa s4), .d (.int q), .d (wbD (palW q)), .d (wbD (palW q)), .o (.dn w (arK q)), .d (.int ad), .d (.int c), .d (.bool (sqB q c)), .un, .un, .un, .un, .un, .un, .un, .un, .un, .un]) (de_is (de_and (x := true) (y := true) (de_is (de_isN7 (de_callP gMw hg (hr.mono (by omega)) T.mw.mg T.mw.kp T.mw.bd (ds := [wbD (palW q), .int (2 : Nat)]) (d := optW (missF (palW q).n (adjW (palW q)) 2)) ⟨palW q, 2, by show q ≤ 30; omega, by omega, rfl, rfl⟩ (da_cons (nv 3) (da_cons de_int da_nil)))) (by rw [eM, pal_miss2 hq q17])) (fun _ => de_one (de_is (de_cmp op_eq od_eqB (nomark _) (de_isN7 (de_callP gMw hg (hr.mono (by omega)) T.mw.mg T.mw.kp T.mw.bd (ds := [wbD (palW q), .int (3 : Nat)]) (d := optW (missF (palW q).n (adjW (palW q)) 3)) ⟨palW q, 3, by show q ≤ 30; omega, by omega, rfl, rfl⟩ (da_cons (nv 3) (da_cons de_int da_nil)))) (de_gtI (nv 2) de_int)) (by rw [eM, pal_miss3 hq q17, decide_eq_true (decide_eq_decide.mpr (by omega))]))) (fun z => nomatch z)) rfl) ⟨_, rfl⟩
end
end G

set_option Elab.async false
set_option linter.all false
set_option maxRecDepth 100000
/- the law holds -/
namespace G
open PySem L2
theorem all_mk {l : PySem.W.OpenLaw} {w : World} {K : PySem.W.Frag} {h : Heap} {mg : Str → Option Value} {fa f1 f2 f3 f4 f5 f6 f7 f8 f9 f10 f11 f12 f13 f14 f15 : Addr} (X : K.In h) (G : h.Ns mainGlobals mg) (hfa : mg "law" = some (.ref fa))
    {od1 an1 od2 an2 od3 an3 od4 an4 od5 an5 od6 an6 od7 an7 od8 an8 od9 an9 od10 an10 od11 an11 od12 an12 od13 an13 od14 an14 od15 an15 : Option Addr} {sl1 sl2 sl3 sl4 sl5 sl6 sl7 sl8 sl9 sl10 sl11 sl12 sl13 sl14 sl15 : Array (Option Value)} {oc1 kV1 dc1 pm1 cd1 ct1 oc2 kV2 dc2 pm2 cd2 ct2 oc3 kV3 dc3 pm3 cd3 ct3 oc4 kV4 dc4 pm4 cd4 ct4 oc5 kV5 dc5 pm5 cd5 ct5 oc6 kV6 dc6 pm6 cd6 ct6 oc7 kV7 dc7 pm7 cd7 ct7 oc8 kV8 dc8 pm8 cd8 ct8 oc9 kV9 dc9 pm9 cd9 ct9 oc10 kV10 dc10 pm10 cd10 ct10 oc11 kV11 dc11 pm11 cd11 ct11 oc12 kV12 dc12 pm12 cd12 ct12 oc13 kV13 dc13 pm13 cd13 ct13 oc14 kV14 dc14 pm14 cd14 ct14 oc15 kV15 dc15 pm15 cd15 ct15 : Value}
    (a1 : PySem.W.nsIn K mainGlobals "web_of_ties" = some (some (.ref f1))) (l1 : K.lookup f1 = some ⟨oc1, od1, .func (PySem.W.fnOf "web_of_ties" "web_of_ties" (defArgs s_web_of_ties) (defBody s_web_of_ties) (defScope s_web_of_ties) .none kV1 dc1 pm1 an1 cd1 ct1), sl1⟩) (c1 : PySem.W.codeIn K cd1 "web_of_ties" = true) (k1 : PySem.W.keepIn K (.ref f1) = true)
    (a2 : PySem.W.nsIn K mainGlobals "paley_web" = some (some (.ref f2))) (l2 : K.lookup f2 = some ⟨oc2, od2, .func (PySem.W.fnOf "paley_web" "paley_web" (defArgs s_paley_web) (defBody s_paley_web) (defScope s_paley_web) .none kV2 dc2 pm2 an2 cd2 ct2), sl2⟩) (c2 : PySem.W.codeIn K cd2 "paley_web" = true) (k2 : PySem.W.keepIn K (.ref f2) = true)
    (a3 : PySem.W.nsIn K mainGlobals "is_met_by" = some (some (.ref f3))) (l3 : K.lookup f3 = some ⟨oc3, od3, .func (PySem.W.fnOf "is_met_by" "is_met_by" (defArgs s_is_met_by) (defBody s_is_met_by) (defScope s_is_met_by) .none kV3 dc3 pm3 an3 cd3 ct3), sl3⟩) (c3 : PySem.W.codeIn K cd3 "is_met_by" = true) (k3 : PySem.W.keepIn K (.ref f3) = true)
    (a4 : PySem.W.nsIn K mainGlobals "meeting_names" = some (some (.ref f4))) (l4 : K.lookup f4 = some ⟨oc4, od4, .func (PySem.W.fnOf "meeting_names" "meeting_names" (defArgs s_meeting_names) (defBody s_meeting_names) (defScope s_meeting_names) .none kV4 dc4 pm4 an4 cd4 ct4), sl4⟩) (c4 : PySem.W.codeIn K cd4 "meeting_names" = true) (k4 : PySem.W.keepIn K (.ref f4) = true)
    (a5 : PySem.W.nsIn K mainGlobals "is_met" = some (some (.ref f5))) (l5 : K.lookup f5 = some ⟨oc5, od5, .func (PySem.W.fnOf "is_met" "is_met" (defArgs s_is_met) (defBody s_is_met) (defScope s_is_met) .none kV5 dc5 pm5 an5 cd5 ct5), sl5⟩) (c5 : PySem.W.codeIn K cd5 "is_met" = true) (k5 : PySem.W.keepIn K (.ref f5) = true)
    (a6 : PySem.W.nsIn K mainGlobals "rows_of_names" = some (some (.ref f6))) (l6 : K.lookup f6 = some ⟨oc6, od6, .func (PySem.W.fnOf "rows_of_names" "rows_of_names" (defArgs s_rows_of_names) (defBody s_rows_of_names) (defScope s_rows_of_names) .none kV6 dc6 pm6 an6 cd6 ct6), sl6⟩) (c6 : PySem.W.codeIn K cd6 "rows_of_names" = true) (k6 : PySem.W.keepIn K (.ref f6) = true)
    (a7 : PySem.W.nsIn K mainGlobals "all_patterns" = some (some (.ref f7))) (l7 : K.lookup f7 = some ⟨oc7, od7, .func (PySem.W.fnOf "all_patterns" "all_patterns" (defArgs s_all_patterns) (defBody s_all_patterns) (defScope s_all_patterns) .none kV7 dc7 pm7 an7 cd7 ct7), sl7⟩) (c7 : PySem.W.codeIn K cd7 "all_patterns" = true) (k7 : PySem.W.keepIn K (.ref f7) = true)
    (a8 : PySem.W.nsIn K mainGlobals "missing_wish" = some (some (.ref f8))) (l8 : K.lookup f8 = some ⟨oc8, od8, .func (PySem.W.fnOf "missing_wish" "missing_wish" (defArgs s_missing_wish) (defBody s_missing_wish) (defScope s_missing_wish) .none kV8 dc8 pm8 an8 cd8 ct8), sl8⟩) (c8 : PySem.W.codeIn K cd8 "missing_wish" = true) (k8 : PySem.W.keepIn K (.ref f8) = true)
    (a9 : PySem.W.nsIn K mainGlobals "_law_source" = some (some (.ref f9))) (l9 : K.lookup f9 = some ⟨oc9, od9, .func (PySem.W.fnOf "_law_source" "_law_source" (defArgs sSrc) (defBody sSrc) (defScope sSrc) .none kV9 dc9 pm9 an9 cd9 ct9), sl9⟩) (c9 : PySem.W.codeIn K cd9 "_law_source" = true) (k9 : PySem.W.keepIn K (.ref f9) = true)
    (a10 : PySem.W.nsIn K mainGlobals "_law_pick" = some (some (.ref f10))) (l10 : K.lookup f10 = some ⟨oc10, od10, .func (PySem.W.fnOf "_law_pick" "_law_pick" (defArgs sPick) (defBody sPick) (defScope sPick) .none kV10 dc10 pm10 an10 cd10 ct10), sl10⟩) (c10 : PySem.W.codeIn K cd10 "_law_pick" = true) (k10 : PySem.W.keepIn K (.ref f10) = true)
    (a11 : PySem.W.nsIn K mainGlobals "_law_of" = some (some (.ref f11))) (l11 : K.lookup f11 = some ⟨oc11, od11, .func (PySem.W.fnOf "_law_of" "_law_of" (defArgs s__law_of) (defBody s__law_of) (defScope s__law_of) .none kV11 dc11 pm11 an11 cd11 ct11), sl11⟩) (c11 : PySem.W.codeIn K cd11 "_law_of" = true) (k11 : PySem.W.keepIn K (.ref f11) = true)
    (a12 : PySem.W.nsIn K mainGlobals "_law_mixed" = some (some (.ref f12))) (l12 : K.lookup f12 = some ⟨oc12, od12, .func (PySem.W.fnOf "_law_mixed" "_law_mixed" (defArgs sAny) (defBody sAny) (defScope sAny) .none kV12 dc12 pm12 an12 cd12 ct12), sl12⟩) (c12 : PySem.W.codeIn K cd12 "_law_mixed" = true) (k12 : PySem.W.keepIn K (.ref f12) = true)
    (a13 : PySem.W.nsIn K mainGlobals "_law_of_ties" = some (some (.ref f13))) (l13 : K.lookup f13 = some ⟨oc13, od13, .func (PySem.W.fnOf "_law_of_ties" "_law_of_ties" (defArgs s__law_of_ties) (defBody s__law_of_ties) (defScope s__law_of_ties) .none kV13 dc13 pm13 an13 cd13 ct13), sl13⟩) (c13 : PySem.W.codeIn K cd13 "_law_of_ties" = true) (k13 : PySem.W.keepIn K (.ref f13) = true)
    (a14 : PySem.W.nsIn K mainGlobals "_law_paley" = some (some (.ref f14))) (l14 : K.lookup f14 = some ⟨oc14, od14, .func (PySem.W.fnOf "_law_paley" "_law_paley" (defArgs s__law_paley) (defBody s__law_paley) (defScope s__law_paley) .none kV14 dc14 pm14 an14 cd14 ct14), sl14⟩) (c14 : PySem.W.codeIn K cd14 "_law_paley" = true) (k14 : PySem.W.keepIn K (.ref f14) = true)
    (a15 : PySem.W.nsIn K mainGlobals "law" = some (some (.ref f15))) (l15 : K.lookup f15 = some ⟨oc15, od15, .func (PySem.W.fnOf "law" "law" (defArgs sLaw) (defBody sLaw) (defScope sLaw) .none kV15 dc15 pm15 an15 cd15 ct15), sl15⟩) (c15 : PySem.W.codeIn K cd15 "law" = true) (k15 : PySem.W.keepIn K (.ref f15) = true)
    (z_len : PySem.W.nsIn K mainGlobals "len" = some none)
    (z_range : PySem.W.nsIn K mainGlobals "range" = some none)
    (z_tuple : PySem.W.nsIn K mainGlobals "tuple" = some none)
    (z_sorted : PySem.W.nsIn K mainGlobals "sorted" = some none)
    (z_enumerate : PySem.W.nsIn K mainGlobals "enumerate" = some none)
    (z_repr : PySem.W.nsIn K mainGlobals "repr" = some none)
    (z_abs : PySem.W.nsIn K mainGlobals "abs" = some none)
    (z_int : PySem.W.nsIn K mainGlobals "int" = some none)
    (z_max : PySem.W.nsIn K mainGlobals "max" = some none)
    (z_min : PySem.W.nsIn K mainGlobals "min" = some none)
    (z_set : PySem.W.nsIn K mainGlobals "set" = some none)
    (z_dict : PySem.W.nsIn K mainGlobals "dict" = some none)
    (z_any : PySem.W.nsIn K mainGlobals "any" = some none)
    (z_all : PySem.W.nsIn K mainGlobals "all" = some none)
    (z_list : PySem.W.nsIn K mainGlobals "list" = some none)
    (z_sum : PySem.W.nsIn K mainGlobals "sum" = some none)
    (z_isinstance : PySem.W.nsIn K mainGlobals "isinstance" = some none)
    (z_bool : PySem.W.nsIn K mainGlobals "bool" = some none)
    (z_str : PySem.W.nsIn K mainGlobals "str" = some none)
    (z_zip : PySem.W.nsIn K mainGlobals "zip" = some none)
    : ∃ fd : FuncData, (∀ (s : Shared) (v : Value), BindsTo s fd ⟨[v], []⟩ [("script", v)]) ∧ ∀ base : Heap, K.In base → base.Ns mainGlobals mg → FnG l.prog w K mg base 6 fa fd ["script"] (spP K psLaw) := by
  have e := hfa.symm.trans (PySem.W.mg_of X G a15)
  cases e
  have F1 := fun_mk (st := s_web_of_ties) l1 c1 k1
  have D1 : Df K mg "web_of_ties" s_web_of_ties f1 _ ["n", "ties"] := ⟨F1, PySem.W.mg_of X G a1, k1, F1.binds (ps := ["n", "ties"]) fun _ _ _ _ _ _ us hl => match us, hl with | [_, _], _ => rfl⟩
  have F2 := fun_mk (st := s_paley_web) l2 c2 k2
  have D2 : Df K mg "paley_web" s_paley_web f2 _ ["q"] := ⟨F2, PySem.W.mg_of X G a2, k2, F2.binds (ps := ["q"]) fun _ _ _ _ _ _ us hl => match us, hl with | [_], _ => rfl⟩
  have F3 := fun_mk (st := s_is_met_by) l3 c3 k3
  have D3 : Df K mg "is_met_by" s_is_met_by f3 _ ["web", "row", "pattern", "name"] := ⟨F3, PySem.W.mg_of X G a3, k3, F3.binds (ps := ["web", "row", "pattern", "name"]) fun _ _ _ _ _ _ us hl => match us, hl with | [_, _, _, _], _ => rfl⟩
  have F4 := fun_mk (st := s_meeting_names) l4 c4 k4
  have D4 : Df K mg "meeting_names" s_meeting_names f4 _ ["web", "row", "pattern"] := ⟨F4, PySem.W.mg_of X G a4, k4, F4.binds (ps := ["web", "row", "pattern"]) fun _ _ _ _ _ _ us hl => match us, hl with | [_, _, _], _ => rfl⟩
  have F5 := fun_mk (st := s_is_met) l5 c5 k5
  have D5 : Df K mg "is_met" s_is_met f5 _ ["web", "row", "pattern"] := ⟨F5, PySem.W.mg_of X G a5, k5, F5.binds (ps := ["web", "row", "pattern"]) fun _ _ _ _ _ _ us hl => match us, hl with | [_, _, _], _ => rfl⟩
  have F6 := fun_mk (st := s_rows_of_names) l6 c6 k6
  have D6 : Df K mg "rows_of_names" s_rows_of_names f6 _ ["n", "many"] := ⟨F6, PySem.W.mg_of X G a6, k6, F6.binds (ps := ["n", "many"]) fun _ _ _ _ _ _ us hl => match us, hl with | [_, _], _ => rfl⟩
  have F7 := fun_mk (st := s_all_patterns) l7 c7 k7
  have D7 : Df K mg "all_patterns" s_all_patterns f7 _ ["many"] := ⟨F7, PySem.W.mg_of X G a7, k7, F7.binds (ps := ["many"]) fun _ _ _ _ _ _ us hl => match us, hl with | [_], _ => rfl⟩
  have F8 := fun_mk (st := s_missing_wish) l8 c8 k8
  have D8 : Df K mg "missing_wish" s_missing_wish f8 _ ["web", "k"] := ⟨F8, PySem.W.mg_of X G a8, k8, F8.binds (ps := ["web", "k"]) fun _ _ _ _ _ _ us hl => match us, hl with | [_, _], _ => rfl⟩
  have F9 := fun_mk (st := sSrc) l9 c9 k9
  have D9 : Df K mg "_law_source" sSrc f9 _ ["script"] := ⟨F9, PySem.W.mg_of X G a9, k9, F9.binds (ps := ["script"]) fun _ _ _ _ _ _ us hl => match us, hl with | [_], _ => rfl⟩
  have F10 := fun_mk (st := sPick) l10 c10 k10
  have D10 : Df K mg "_law_pick" sPick f10 _ ["source", "many"] := ⟨F10, PySem.W.mg_of X G a10, k10, F10.binds (ps := ["source", "many"]) fun _ _ _ _ _ _ us hl => match us, hl with | [_, _], _ => rfl⟩
  have F11 := fun_mk (st := s__law_of) l11 c11 k11
  have D11 : Df K mg "_law_of" s__law_of f11 _ ["source", "some"] := ⟨F11, PySem.W.mg_of X G a11, k11, F11.binds (ps := ["source", "some"]) fun _ _ _ _ _ _ us hl => match us, hl with | [_, _], _ => rfl⟩
  have F12 := fun_mk (st := sAny) l12 c12 k12
  have D12 : Df K mg "_law_mixed" sAny f12 _ ["source", "things"] := ⟨F12, PySem.W.mg_of X G a12, k12, F12.binds (ps := ["source", "things"]) fun _ _ _ _ _ _ us hl => match us, hl with | [_, _], _ => rfl⟩
  have F13 := fun_mk (st := s__law_of_ties) l13 c13 k13
  have D13 : Df K mg "_law_of_ties" s__law_of_ties f13 _ ["n", "ties"] := ⟨F13, PySem.W.mg_of X G a13, k13, F13.binds (ps := ["n", "ties"]) fun _ _ _ _ _ _ us hl => match us, hl with | [_, _], _ => rfl⟩
  have F14 := fun_mk (st := s__law_paley) l14 c14 k14
  have D14 : Df K mg "_law_paley" s__law_paley f14 _ ["q"] := ⟨F14, PySem.W.mg_of X G a14, k14, F14.binds (ps := ["q"]) fun _ _ _ _ _ _ us hl => match us, hl with | [_], _ => rfl⟩
  have T0 : Bt mg := ⟨PySem.W.mg_none_of X G z_len, PySem.W.mg_none_of X G z_range, PySem.W.mg_none_of X G z_tuple, PySem.W.mg_none_of X G z_sorted, PySem.W.mg_none_of X G z_enumerate, PySem.W.mg_none_of X G z_repr, PySem.W.mg_none_of X G z_abs, PySem.W.mg_none_of X G z_int, PySem.W.mg_none_of X G z_max, PySem.W.mg_none_of X G z_min, PySem.W.mg_none_of X G z_set, PySem.W.mg_none_of X G z_dict, PySem.W.mg_none_of X G z_any, PySem.W.mg_none_of X G z_all, PySem.W.mg_none_of X G z_list, PySem.W.mg_none_of X G z_sum, PySem.W.mg_none_of X G z_isinstance, PySem.W.mg_none_of X G z_bool, PySem.W.mg_none_of X G z_str, PySem.W.mg_none_of X G z_zip⟩
  exact ⟨PySem.W.fnOf "law" "law" (defArgs sLaw) (defBody sLaw) (defScope sLaw) .none kV15 dc15 pm15 an15 cd15 ct15, fun s v => .of_eq rfl, fun base _ _ => ok_law (fun_mk (st := sLaw) l15 c15 k15) ⟨T0, D1, D2, D3, D4, D5, D6, D7, D8, D9, D10, D11, D12, D13, D14⟩⟩
theorem walk {l : PySem.W.OpenLaw} {q : Program} {loose : List Str} {XP : (Str → Option Value) → Heap → Prop} {YP : World → Heap → Prop} {d : DefRec} {K : Params → PySem.W.Frag} (hn : l.most = some 63) (hdf : d.params.defaults = [])
    (hY : ∀ (w : World) (h : Heap), YP w h → (K w.params).In h)
    (F : ∀ (w : World) (mg : Str → Option Value) (fa : Addr) (h : Heap), (K w.params).In h → h.Ns mainGlobals mg → mg d.name = some (.ref fa) →
      ∃ fd : FuncData, (∀ (s : Shared) (u : Value), BindsTo s fd ⟨[u], []⟩ [("script", u)]) ∧ ∀ base : Heap, (K w.params).In base → base.Ns mainGlobals mg → FnG l.prog w (K w.params) mg base 6 fa fd ["script"] (spP (K w.params) psLaw)) :
    PySem.W.WalkO q loose XP YP l.row.toRowW d [] (fun f vs => PySem.call f vs) :=
  walk_ofG (n := 63) (k := 6) (x := "script") (sp := fun w => spP (K w.params) psLaw) hn (by decide) hdf ⟨rfl, by decide, by decide⟩ hY F fun w H a ns hl hS =>
    ⟨fun _ => none, fun _ => False, H, [.list (ns.map .int)], .bool true, ⟨ns, hl, rfl, rfl⟩, okD (fun _ _ z => nomatch z) (Sub.refl H) (fun _ z => z.elim) (.cons (.lst hS (dpAll_ints ns)) .nil), fun v B' H' _ _ dv => by cases dv; rfl⟩
end G

open PySem PySem.W PyProof.Rows in
set_option maxRecDepth 100000 in
set_option maxHeartbeats 0 in
theorem PySem.Challenge.cw_webstoldapart_k74_whole_squares_by_rests_holds : PySem.Challenge.rw_webstoldapart_k74_whole_squares_by_rests.Holds := by
  w_on; o_law; k_head; (case hw => w_witness2)
  k_fill
  refine G.walk (l := PySem.Challenge.rw_webstoldapart_k74_whole_squares_by_rests) rfl rfl (fun w h Y => PySem.W.kIn_of Y) ?F
  case F =>
    intro w mg fa h KX GN hmg
    refine' _root_.G.all_mk KX GN hmg ?a1 ?l1 ?c1 ?k1 ?a2 ?l2 ?c2 ?k2 ?a3 ?l3 ?c3 ?k3 ?a4 ?l4 ?c4 ?k4 ?a5 ?l5 ?c5 ?k5 ?a6 ?l6 ?c6 ?k6 ?a7 ?l7 ?c7 ?k7 ?a8 ?l8 ?c8 ?k8 ?a9 ?l9 ?c9 ?k9 ?a10 ?l10 ?c10 ?k10 ?a11 ?l11 ?c11 ?k11 ?a12 ?l12 ?c12 ?k12 ?a13 ?l13 ?c13 ?k13 ?a14 ?l14 ?c14 ?k14 ?a15 ?l15 ?c15 ?k15 ?z_len ?z_range ?z_tuple ?z_sorted ?z_enumerate ?z_repr ?z_abs ?z_int ?z_max ?z_min ?z_set ?z_dict ?z_any ?z_all ?z_list ?z_sum ?z_isinstance ?z_bool ?z_str ?z_zip
    (case a1 => k_is)
    (case l1 => k_is)
    (case c1 => k_is)
    (case k1 => k_is)
    (case a2 => k_is)
    (case l2 => k_is)
    (case c2 => k_is)
    (case k2 => k_is)
    (case a3 => k_is)
    (case l3 => k_is)
    (case c3 => k_is)
    (case k3 => k_is)
    (case a4 => k_is)
    (case l4 => k_is)
    (case c4 => k_is)
    (case k4 => k_is)
    (case a5 => k_is)
    (case l5 => k_is)
    (case c5 => k_is)
    (case k5 => k_is)
    (case a6 => k_is)
    (case l6 => k_is)
    (case c6 => k_is)
    (case k6 => k_is)
    (case a7 => k_is)
    (case l7 => k_is)
    (case c7 => k_is)
    (case k7 => k_is)
    (case a8 => k_is)
    (case l8 => k_is)
    (case c8 => k_is)
    (case k8 => k_is)
    (case a9 => k_is)
    (case l9 => k_is)
    (case c9 => k_is)
    (case k9 => k_is)
    (case a10 => k_is)
    (case l10 => k_is)
    (case c10 => k_is)
    (case k10 => k_is)
    (case a11 => k_is)
    (case l11 => k_is)
    (case c11 => k_is)
    (case k11 => k_is)
    (case a12 => k_is)
    (case l12 => k_is)
    (case c12 => k_is)
    (case k12 => k_is)
    (case a13 => k_is)
    (case l13 => k_is)
    (case c13 => k_is)
    (case k13 => k_is)
    (case a14 => k_is)
    (case l14 => k_is)
    (case c14 => k_is)
    (case k14 => k_is)
    (case a15 => k_is)
    (case l15 => k_is)
    (case c15 => k_is)
    (case k15 => k_is)
    (case z_len => k_is)
    (case z_range => k_is)
    (case z_tuple => k_is)
    (case z_sorted => k_is)
    (case z_enumerate => k_is)
    (case z_repr => k_is)
    (case z_abs => k_is)
    (case z_int => k_is)
    (case z_max => k_is)
    (case z_min => k_is)
    (case z_set => k_is)
    (case z_dict => k_is)
    (case z_any => k_is)
    (case z_all => k_is)
    (case z_list => k_is)
    (case z_sum => k_is)
    (case z_isinstance => k_is)
    (case z_bool => k_is)
    (case z_str => k_is)
    (case z_zip => k_is)
#print axioms PySem.Challenge.cw_webstoldapart_k74_whole_squares_by_rests_holds
