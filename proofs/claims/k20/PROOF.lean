import PyProof.Rows.All
import Wide.All
import OpenK.AllK
import Wide.FinOn
import HandS.ForMost
import HandS.Walk
import HandS.Deep
import HandS.Wide
import HandS.Style
import HandS.Flow
import HandS.TupAny
import HandS.SortInts
import KE.KDictWalk
import KE.GoesEnum
import KE.KDictKeyed
import KE.SortData
import HandS.TupMul
import PyProof.ReprReads
import HandS.DictComp
import KE.KDictCopyH
import HandS.More
import PySem.Challenge.RW_webstoldapart_k20_whole_counted_alike
import HandS.Star
import HandS.Conv
import HandS.SetFor
import HandS.TupLe
import KE.KIndexOf
import HandS.IsInst
import HandS.TryOnly
import PyProof.ReprLen
import PyProof.DictUpdate
import KE.KDictLaws
import KE.KDictSum
import PyProof.P3Eq
set_option Elab.async false
set_option linter.all false
set_option maxRecDepth 100000
set_option maxHeartbeats 4000000
/- contracts of defs that also know that no repr is under way -/
namespace G
open PySem L2 PySem.Spec PyProof.Rows

/-- a def keeps its promise wherever no guard is laid -/
structure FnG (P : Program) (w : World) (K : PySem.W.Frag) (mg : Str → Option Value) (base : Heap) (k : Nat) (f : Addr) (fd : FuncData) (ps : List Str) (sp : Sp) : Prop where
  len : ∀ vs H Q E, sp vs H Q E → vs.length = ps.length
  run : ∀ (A : Around) (outer : List Env) (s : Shared) (H : Hp) (args : Args) (us : List Value) (vs : List V) (Q : VK) (E : XK), A.guards = some [] →
    Room k A → Env0 P w K mg base A outer s H → BindsTo s fd args (ps.zip us) → Vals vs us → sp vs H Q E →
    codeAny (model P w) A (.call (.ref f) args) (CR L2.CX0 outer P w H s Q E) s

theorem FnG.mono {P : Program} {w : World} {K : PySem.W.Frag} {mg : Str → Option Value} {base : Heap} {j k : Nat} {f : Addr} {fd : FuncData} {ps : List Str} {sp : Sp}
    (F : FnG P w K mg base j f fd ps sp) (h : j ≤ k) : FnG P w K mg base k f fd ps sp :=
  ⟨F.len, fun A outer s H args us vs Q E g r => F.run A outer s H args us vs Q E g (r.mono h)⟩

theorem fnG_of {P : Program} {w : World} {K : PySem.W.Frag} {mg : Str → Option Value} {base : Heap} {x qual : Str} {st : Stmt} {f : Addr} {fd : FuncData} {N ps : List Str} {k : Nat} {sp : Sp}
    (F : Fun K x qual st f fd) (S : FnScope N ps (defScope st)) (len : ∀ vs H Q E, sp vs H Q E → vs.length = ps.length)
    (body : ∀ (cdv : Value) (A : Around) (outer : List Env) (s : Shared) (H : Hp) (vs : List V) (Q : VK) (E : XK), A.guards = some [] → Room k (A.deeper (envOfC qual (defScope st) s.heap.objs.size f cdv)) → sp vs H Q E →
      ∃ t, PSs (cxOf L2.CX0 P w K mg base N qual (defScope st) f cdv A outer s H E).nox (defBody st) t ∧ t { nx := fun _ H' => Q .non H', rt := Q } (start N vs) H) :
    FnG P w K mg base (k + 1) f fd ps sp := by
  obtain ⟨oc, od, kV, doc, pm, an, cdv, ct, osl, rfl, lk, hcd⟩ := F.ex
  refine ⟨len, ?_⟩
  intro A outer s H args us vs Q E hg hr e0 hb r hsp
  have KX : K.In s.heap := e0.mod.kin.keeps fun b o e => (e0.bs b o e).1
  have lim : s.heap.NoLimit := e0.mod.nolimit.keeps fun b o e => (e0.bs b o e).1
  have hkind : ∀ y ∈ ps.zip us, (defScope st).names.lookup y.1 = some .local ∨ ((defScope st).names.lookup y.1 = some .cell ∧ ((cellsFrom (s.heap.objs.size + 1) (defScope st).names []).lookup y.1).isSome = true) := by
    rintro ⟨n, v⟩ hy
    exact (S.par n (List.of_mem_zip hy).1).imp id fun q => ⟨q, PySem.W.cellsFrom_some _ _ _ (.inl q)⟩
  refine codeAny_call_function hr.depth (KX _ _ lk) rfl S.co S.gen rfl (PySem.W.codeRec_of KX hcd) (hb _ _ _ _ ?_)
  refine wpAny_newFunctionEnv_cells S.kind hkind ?_
  intro env he s1 x
  subst he
  refine ⟨lim.keeps x.toInCall.keep, codeAny_func ?_⟩
  obtain ⟨t, ht, hq⟩ := body cdv A outer s H vs Q E hg (hr.deeper _) hsp
  have I := inv_start (CX := L2.CX0) (E := E) (cd := cdv) S hr.hd e0 (len _ _ _ _ hsp) r x
  refine wpAny_mono (ht.nox.run [] s1 (start N vs) H _ I hq) ?_ fun _ _ z => z
  intro fl s' hs
  cases fl with
  | ret u =>
    obtain ⟨v, σ', H', J, rv, q⟩ := hs
    exact ⟨v, H', J.os, J.bare, J.base, J.hok, rv, q⟩
  | next =>
    obtain ⟨σ', H', J, q⟩ := hs
    exact ⟨V.non, H', J.os, J.bare, J.base, J.hok, rfl, q⟩
  | brk => exact hs.elim fun _ z => z.elim fun _ z => z.2.elim
  | cont => exact hs.elim fun _ z => z.elim fun _ z => z.2.elim

section
variable {X : Cx} {k : Nat} {f : Addr} {fd : FuncData} {ps : List Str} {sp : Sp} {x : Str} {p pos : Pos} {e : Expr} {es : List Expr} {t : TA}
theorem run_fnG {pins : List (Addr × Obj)} {σ : L2.St} {H : Hp} {s : Shared} {Q : VK} {us : List Value} {vs : List V} (F : FnG X.prog X.w X.K X.mg X.base k f fd ps sp) (hg : X.A.guards = some []) (hr : Room k X.A) (hb : Binds X.K fd ps [])
    (I : Inv X pins σ H s) (r : Vals vs us) (h : sp vs H Q L2.E0) : wpAny (model X.prog X.w) X.A (call (.ref f) us) (EP X pins σ Q) X.xe s := by
  have hl : (us ++ []).length = ps.length := by
    rw [List.append_nil, ← r.length]
    exact F.len _ _ _ _ h
  have hbt := hb s us I.kIn hl
  rw [List.append_nil] at hbt
  refine wpAny_call (codeAny_mono (F.run X.A X.stack s H ⟨us, []⟩ us vs Q L2.E0 hg hr I.env0 hbt r h) ?_)
  intro r s' hq
  cases r with
  | error e => exact False.elim hq
  | ok fl =>
    cases fl with
    | ret u => exact I.after hq
    | next => exact False.elim hq
    | brk => exact False.elim hq
    | cont => exact False.elim hq
/-- f(e, ..) -/
theorem pe_callG (F : FnG X.prog X.w X.K X.mg X.base k f fd ps sp) (hgd : X.A.guards = some []) (hr : Room k X.A) (hg : Gl X x) (hm : X.mg x = some (.ref f)) (hk : PySem.W.keepIn X.K (.ref f) = true) (hb : Binds X.K fd ps [])
    (ha : PA X (e :: es) t) (hdb : (x == ("__debug__" : Str)) = false := by decide) (he : starEach (e :: es) X.env = (false, eval e X.env) :: starEach es X.env := by rfl) (hpl : (backTo pos (starEach es X.env)).any (·.1) = false := by rfl) :
    PE X (.Call (.Name x p) (e :: es) [] pos) (tCall sp [] L2.E0 t) := by
  constructor
  intro pins s σ H Q I h
  refine wpAny_Call_Name_kw (ld_glob I hg hm ?_ hdb)
  refine PySem.W.callWith_K (h₀ := X.base) I.ok.mod.kin hk (thn (ha.run pos pins s σ H _ I h) ?_) he hpl
  rintro us s1 ⟨vs, H1, I1, r, q⟩
  refine ⟨I1.kIn, run_fnG F hgd hr hb I1 r ?_⟩
  rw [List.append_nil] at q
  exact q
end
end G

set_option Elab.async false
set_option linter.all false
set_option maxRecDepth 100000
set_option maxHeartbeats 4000000
/- the end of a law row for a law kept by FnG -/
namespace G
open PySem L2 PySem.Spec PyProof.Rows

section
variable {P : Program} {w : World} {K : PySem.W.Frag} {mg mb : Str → Option Value} {k : Nat} {fa a : Addr} {fd : FuncData} {x : Str} {sp : Sp} {s₁ : Shared} {vs : List Value} {ns : List Int}

/-- from an abstract heap in which the script alone may be known -/
theorem law_core (H : Hp) (KX : K.In s₁.heap) (hns : s₁.heap.Ns mainGlobals mg) (hb : s₁.heap.Ns builtinsNs mb) (hbb : ∀ x : Str, x ≠ "__name__" → mb x = bootBuiltins x) (hlim : s₁.heap.NoLimit) (hg : s₁.gens = #[])
    (ha : s₁.heap.get? a = some { cls := .type "list", data := .seq vs.toArray }) (hr : Room k callerA)
    (F : ∀ base : Heap, K.In base → base.Ns mainGlobals mg → FnG P w K mg base k fa fd [x] sp) (hbind : ∀ (s : Shared) (u : Value), BindsTo s fd ⟨[u], []⟩ [(x, u)])
    (hO : Only H) (hok : HOk P w H s₁.heap) (hA : ∀ b, H b ≠ none → b = a) (hK : H a ≠ none → K.lookup a = none)
    (hsp : sp [.ref a] H (fun v _ => v = .bl true) L2.E0) :
    codeAny (model P w) callerA (.call (.ref fa) ⟨[.ref a], []⟩) (fun r s' => r = .ok (.ret (.bool true)) ∧ OldK s₁.heap s'.heap ∧ s'.os = s₁.os ∧ AllBare s'.gens) s₁ := by
  have at_a : ∀ {b : Addr}, H b ≠ none → s₁.heap.get? b = some { cls := .type "list", data := .seq vs.toArray } ∧ K.lookup b = none := by
    intro b hb'
    have e := hA b hb'
    subst e
    exact ⟨ha, hK hb'⟩
  have noD : ∀ {b : Addr} {o : Obj} {es : Array DictEntry} {ep : Nat}, s₁.heap.get? b = some o → o.data = .dict es ep → H b = none := by
    intro b o es ep e d
    apply Classical.byContradiction
    intro n
    rw [(at_a n).1] at e
    cases e
    exact nomatch d
  have toB : ∀ {b : Addr} {m : Str → Option Value}, s₁.heap.Ns b m → (hidT s₁.heap H).Ns b m := by
    rintro b m ⟨o, es, ep, e, d, r⟩
    exact ⟨o, es, ep, hidT_get e (noD e d), d, r⟩
  have KB : K.In (hidT s₁.heap H) := by
    intro b o e
    refine hidT_get (KX b o e) ?_
    apply Classical.byContradiction
    intro n
    rw [(at_a n).2] at e
    cases e
  have M : Mod K mg (hidT s₁.heap H) := ⟨KB, toB hns, ⟨mb, toB hb, hbb⟩, by
    obtain ⟨mc, h1, h2⟩ := hlim
    exact ⟨mc, toB h1, h2⟩⟩
  have e0 : Env0 P w K mg (hidT s₁.heap H) callerA [] s₁ H :=
    ⟨rfl, M, fun b o e => of_hidT e, Nat.le_of_eq (hidT_size _ _), trivial, fun b z => absurd (show b ∈ ([] : List Addr) from z) (by simp), hok, .of_eq hg⟩
  refine codeAny_mono ((F _ KB (toB hns)).run callerA [] s₁ H ⟨[.ref a], []⟩ [.ref a] [.ref a] _ _ rfl hr e0 (hbind s₁ (.ref a)) (.cons rfl .nil) hsp) ?_
  intro r s' h
  cases r with
  | error e => exact False.elim h
  | ok fl =>
    cases fl with
    | next => exact False.elim h
    | brk => exact False.elim h
    | cont => exact False.elim h
    | ret u =>
      obtain ⟨v, H', os, bare, un, hok', rv, q⟩ := h
      have q' : v = .bl true := q
      subst q'
      have e : u = Value.bool true := rv
      subst e
      refine ⟨rfl, OldK.of_keep ?_, os, bare⟩
      intro b o e
      cases hb : H b with
      | none => exact un.keep b o e hb (by intro z; exact absurd (show b ∈ ([] : List Addr) from z) (by simp)) (by simp)
      | some u =>
        rcases hO b with z | ⟨ob, xs, z⟩
        · rw [hb] at z; cases z
        · have e1 := (hok b _ z).1
          have e2 := (hok' b _ (un.frzs b ob _ z)).1
          rw [e] at e1
          cases e1
          exact e2

theorem law_callG (KX : K.In s₁.heap) (hns : s₁.heap.Ns mainGlobals mg) (hb : s₁.heap.Ns builtinsNs mb) (hbb : ∀ x : Str, x ≠ "__name__" → mb x = bootBuiltins x) (hlim : s₁.heap.NoLimit) (hg : s₁.gens = #[])
    (ha : s₁.heap.get? a = some { cls := .type "list", data := .seq vs.toArray }) (hi : IntsAre vs ns) (hl : ns.length ≤ sizeLine) (hr : Room k callerA)
    (F : ∀ base : Heap, K.In base → base.Ns mainGlobals mg → FnG P w K mg base k fa fd [x] sp) (hbind : ∀ (s : Shared) (u : Value), BindsTo s fd ⟨[u], []⟩ [(x, u)])
    (hsp : ∀ H : Hp, SqL K H a (ns.map V.int) → sp [.ref a] H (fun v _ => v = .bl true) L2.E0) :
    codeAny (model P w) callerA (.call (.ref fa) ⟨[.ref a], []⟩) (fun r s' => r = .ok (.ret (.bool true)) ∧ OldK s₁.heap s'.heap ∧ s'.os = s₁.os ∧ AllBare s'.gens) s₁ := by
  have rv := vals_ints hi
  have lenV := hi.length
  by_cases hk : K.lookup a = none
  · let H : Hp := fun b => if b = a then some (.frz { cls := .type "list", data := .seq vs.toArray } (.lst (ns.map V.int))) else none
    have HA : H a = some (.frz { cls := .type "list", data := .seq vs.toArray } (.lst (ns.map V.int))) := if_pos rfl
    have HN : ∀ b, b ≠ a → H b = none := fun b n => if_neg n
    refine law_core H KX hns hb hbb hlim hg ha hr F hbind ?_ ?_ ?_ (fun _ => hk) (hsp H (.inl (.inr ⟨_, HA⟩)))
    · intro b
      by_cases n : b = a
      · subst n; exact .inr ⟨_, _, HA⟩
      · exact .inl (HN b n)
    · intro b u z
      by_cases n : b = a
      · subst n
        rw [HA] at z
        cases z
        exact ⟨ha, by rw [List.length_map]; exact hl, vs, _, rv, ha⟩
      · rw [HN b n] at z; cases z
    · intro b z
      apply Classical.byContradiction
      intro n
      exact z (HN b n)
  · obtain ⟨o, ho⟩ := Option.ne_none_iff_exists'.mp hk
    have e := KX a o ho
    rw [ha] at e
    cases e
    refine law_core (fun _ => none) KX hns hb hbb hlim hg ha hr F hbind (fun _ => .inl rfl) (fun b u z => nomatch z) (fun b z => absurd rfl z) (fun z => absurd rfl z) (hsp _ (.inr ?_))
    exact ⟨_, vs.toArray, _, ho, rfl, rfl, rfl, by rw [List.size_toArray, lenV]; exact hl, by simpa using rv⟩
end

/-- what k_head leaves, from the law's promise kept by FnG -/
theorem walk_ofG {l : PySem.W.OpenLaw} {n k : Nat} {q : Program} {loose : List Str} {XP : (Str → Option Value) → Heap → Prop} {YP : World → Heap → Prop} {d : DefRec} {K : Params → PySem.W.Frag} {sp : World → Sp} {x : Str}
    (hn : l.most = some n) (hn2 : n ≤ sizeLine) (hdf : d.params.defaults = []) (hr : Room k callerA)
    (hY : ∀ (w : World) (h : Heap), YP w h → (K w.params).In h)
    (F : ∀ (w : World) (mg : Str → Option Value) (fa : Addr) (h : Heap), (K w.params).In h → h.Ns mainGlobals mg → mg d.name = some (.ref fa) →
      ∃ fd : FuncData, (∀ (s : Shared) (u : Value), BindsTo s fd ⟨[u], []⟩ [(x, u)]) ∧
        ∀ base : Heap, (K w.params).In base → base.Ns mainGlobals mg → FnG l.prog w (K w.params) mg base k fa fd [x] (sp w))
    (hsp : ∀ (w : World) (H : Hp) (a : Addr) (ns : List Int), ns.length ≤ n → SqL (K w.params) H a (ns.map V.int) → sp w [.ref a] H (fun v _ => v = .bl true) L2.E0) :
    PySem.W.WalkO q loose XP YP l.row.toRowW d [] (fun f vs => PySem.call f vs) := by
  refine Att.attach_call hn hdf ?_
  intro w s₀ s₁ mg mb fa o pm cd doc a vs ns G Y ho hd hcd hmg hobj hints hlen hg
  have KX := hY w _ Y
  obtain ⟨fd, hb, hF⟩ := F w mg fa _ KX G.T.g hmg
  exact law_callG KX G.T.g G.T.b G.T.builtins G.T.nolimit hg hobj hints (Nat.le_trans hlen hn2) hr hF hb fun H hS => hsp w H a ns hlen hS
end G

set_option Elab.async false
set_option linter.all false
set_option maxRecDepth 100000
set_option maxHeartbeats 4000000
/- new tuples, with what stands in their objects -/
namespace G
open PySem L2 PySem.Spec PyProof.Rows
/-- a new tuple at any place, its object known to keep no dict -/
def NewT (H : Hp) (xs : List V) (Q : VK) : Prop := ∀ p o, H p = none → o.dict = none → o.cls = .type "tuple" → Q (.ref p) (upd H p (.frz o (.tup xs)))
section
variable {X : Cx} {es : List Expr} {t : TA} {pos : Pos}
theorem inv_newT {pins : List (Addr × Obj)} {σ : L2.St} {H : Hp} {s : Shared} {xs : List V} {its : List Value} {h' : Heap} {o : Obj} {n t' : Nat} {Q : VK} (I : Inv X pins σ H s) (rv : Vals xs its) (hz : xs.length ≤ sizeLine) (k : ∀ b u, s.heap.get? b = some u → h'.get? b = some u)
    {a : Addr} (hle : s.heap.objs.size ≤ a) (at' : h'.get? a = some o) (hc : o.cls = .type "tuple") (hd : o.data = .seq its.toArray n) (hn : o.dict = none) (q : NewT H xs Q) : EP X pins σ Q (.ref a) { s with heap := h', toks := t' } :=
  ⟨.ref a, _, I.laid (t' := t') k hle (show ObjOk X.prog X.w _ _ _ (.frz o (.tup xs)) from ⟨at', hz, its, rv, o, at', hc, n, hd⟩), rfl, q a o (I.hok.fresh hle) hn hc⟩
def tTupN (t : TA) : TE := fun σ H Q => t σ H fun xs H1 => xs.length ≤ sizeLine ∧ NewT H1 xs Q
theorem pe_tupN {x1} (h : PA X es t) : PE X (.Tuple es x1 pos) (tTupN t) := by
  refine ⟨fun pins s σ H Q I hq => wpAny_Tuple_spliced (thn (h.run pos pins s σ H _ I hq) fun us s1 ⟨xs, H1, I1, r, z, q⟩ => ⟨by rw [← r.length]; exact z, ?_⟩)⟩
  exact inv_newT (t' := s1.toks) I1 r z (fun _ _ e => Heap.get?_push_of_some _ e) (Nat.le_refl _) (Heap.get?_push_size _ rfl) rfl rfl rfl q
/-- tuple(list) -/
theorem call_tupleN : CallR X (.type "tuple") (fun xs H Q => ∃ p ys, xs = [.ref p] ∧ SqL X.K H p ys ∧ NewT H ys Q) := by
  rintro pins s σ H xs us Q I r ⟨p, ys, rfl, hq, q⟩
  obtain ⟨u, rfl, rx⟩ := vals1 r
  cases rx
  obtain ⟨its, r', pl, hz⟩ := I.list hq
  have hlen := r'.length
  refine call_tuple_list pl.isList (fun h' kp => ?_) (by simp only [List.size_toArray] <;> omega)
  exact inv_newT (s := { s with heap := h' }) (t' := s.toks) (I.kept (t' := s.toks) kp) r' hz (fun _ _ e => Heap.get?_push_of_some _ e) (Nat.le_refl _) (Heap.get?_push_size _ rfl) rfl rfl rfl q
/-- t + t -/
def rCatN (K : PySem.W.Frag) : R2 := fun x y H Q => ∃ a b xs ys, x = .ref a ∧ y = .ref b ∧ SqT K H a xs ∧ SqT K H b ys ∧ xs.length + ys.length ≤ sizeLine ∧ (xs = [] → Q (.ref b) H) ∧ (xs ≠ [] → ys = [] → Q (.ref a) H) ∧ (xs ≠ [] → ys ≠ [] → NewT H (xs ++ ys) Q)
theorem op_catN : OpR X (binaryOp .Add) (rCatN X.K) := by
  rintro pins s σ H x y v u Q I rx ry ⟨a, b, xs, ys, rfl, rfl, ha, hb, hz, q0, q1, q2⟩
  by_cases hx : xs = []
  · exact op_catA pins s σ H _ _ v u Q I rx ry ⟨a, b, xs, ys, rfl, rfl, ha, hb, hz, q0, q1, fun z => absurd hx z⟩
  · by_cases hy : ys = []
    · exact op_catA pins s σ H _ _ v u Q I rx ry ⟨a, b, xs, ys, rfl, rfl, ha, hb, hz, q0, q1, fun _ z => absurd hy z⟩
    · cases rx
      cases ry
      obtain ⟨i1, r1, p1, _⟩ := I.tuple ha
      obtain ⟨i2, r2, p2, _⟩ := I.tuple hb
      refine HT.cat_tup p1 p2 (fun z => hx (r1.nil_iff.mp z)) (fun z => absurd (r2.nil_iff.mp z) hy) (fun z => ?_) (by rw [← r1.length, ← r2.length]; exact hz)
      exact inv_newT (t' := s.toks) I (r1.append r2) (by rw [List.length_append]; exact hz) (fun _ _ e => Heap.get?_push_of_some _ e) (Nat.le_refl _) (Heap.get?_push_size _ rfl) rfl rfl rfl (q2 hx hy)
/-- t[i:j] -/
def rSlN (K : PySem.W.Frag) : V → Option Int → Option Int → Hp → VK → Prop := fun x lo hi H Q => ∃ a xs, x = .ref a ∧ SqT K H a xs ∧
  (HT.sIx xs.length 0 lo = 0 ∧ HT.sIx xs.length xs.length hi = xs.length → Q (.ref a) H) ∧ (¬ (HT.sIx xs.length 0 lo = 0 ∧ HT.sIx xs.length xs.length hi = xs.length) → NewT H (cutV xs lo hi) Q)
theorem sl_tupN : SlR X (rSlN X.K) := by
  rintro pins s σ H x v vl vu lo hi sl Q I rx hs pl pu ⟨a, xs, rfl, hx, q1, q2⟩
  by_cases hw : HT.sIx xs.length 0 lo = 0 ∧ HT.sIx xs.length xs.length hi = xs.length
  · exact sl_tupA pins s σ H _ v vl vu lo hi sl Q I rx hs pl pu ⟨a, xs, rfl, hx, q1, fun z => absurd hw z⟩
  · cases rx
    obtain ⟨its, r, ht, hz⟩ := I.tuple hx
    have el : its.toArray.size = xs.length := by rw [List.size_toArray]; exact r.length.symm
    refine ⟨"tuple", _, PyProof.Rows.slot_tuple_getitem.lookup, ht.typeIs, HT.getItem_tuple_cut ht hs pl pu (by rw [el]; exact hw) ?_ (by rw [el]; exact hz)⟩
    rw [el]
    exact inv_newT (t' := s.toks) I ((r.drop (HT.sIx xs.length 0 lo)).take (HT.sIx xs.length xs.length hi - HT.sIx xs.length 0 lo)) (Nat.le_trans (cutV_length xs lo hi) hz) (fun _ _ e => Heap.get?_push_of_some _ e) (Nat.le_refl _) (Heap.get?_push_size _ rfl) rfl rfl rfl (q2 hw)
/-- t * k -/
def rRepN (K : PySem.W.Frag) : R2 := fun x y H Q => ∃ l k xs, x = .ref l ∧ y = .int k ∧ SqT K H l xs ∧ xs ≠ [] ∧ 2 ≤ k ∧ k ≤ 1000 ∧ xs.length ≤ 1000 ∧ NewT H (List.replicate k.toNat xs).flatten Q
theorem op_repN : OpR X (binaryOp .Mult) (rRepN X.K) := by
  rintro pins s σ H x y v u Q I rx ry ⟨l, k, xs, rfl, rfl, hT, hne, h1, h2, hz, q⟩
  cases rx
  obtain ⟨t, rfl⟩ := ry
  obtain ⟨its, r, ⟨⟨cls, dd, data, sl⟩, ho, hc, n, hd⟩, hs⟩ := I.tuple hT
  simp only at hc hd
  subst hc hd
  have hle : its.length = xs.length := r.length.symm
  have hi : its.toArray.isEmpty = false := by
    cases its with
    | nil => exact absurd (List.eq_nil_of_length_eq_zero hle.symm) hne
    | cons a b => rfl
  have es : its.toArray.size = xs.length := by rw [List.size_toArray, hle]
  have hm : ((its.toArray.size : Nat) : Int) * k ≤ 1000000 := by
    rw [es]
    have a1 : ((xs.length : Nat) : Int) * k ≤ 1000 * k := Int.mul_le_mul_of_nonneg_right (by omega) (by omega)
    omega
  have a2 : k.toNat * xs.length ≤ 1000 * 1000 := Nat.mul_le_mul (by omega) hz
  have fl : (List.replicate k.toNat its).flatten.length ≤ sizeLine := by
    rw [PyProof.Rows.lm_len_rep_flat, hle, sizeLine_eq]
    omega
  have d0 : (decide (k < -(2 ^ 63)) || decide (k ≥ 2 ^ 63)) = false := by simp; omega
  have d1 : (its.toArray.isEmpty || k == 1) = false := by
    rw [hi]; simp; omega
  have d2 : (decide (k ≤ 0) || its.toArray.isEmpty) = false := by
    rw [hi]; simp; omega
  have d4 : Builtin.Tuple.tupleTooMany (((its.toArray.size : Nat) : Int) * k) = false := by
    unfold Builtin.Tuple.tupleTooMany
    rw [sizeLine_eq]
    simp only [decide_eq_false_iff_not]
    omega
  refine wpAny_binaryOp_repeat_ref (T := "tuple") (U := "int") (by decide) ⟨_, ho, rfl⟩ (fun s' => typeIs_int s' k t) noFill_tuple_mul PySem.F.fills_int_mul PySem.F.slot_int_rmul repeat_tuple PySem.F.slot_int_index.lookup
    (call_meets PySem.F.slot_int_rmul (typeIs_int s k t) PySem.F.entry_int_rmul (PySem.F.args_int_rmul_2 _ _) (int_rmul_tuple k t l its.toArray n dd sl) ⟨ho, rfl, ⟨_, ho, rfl⟩,
      call_meets PySem.F.slot_tuple_mul ⟨_, ho, rfl⟩ PySem.F.entry_tuple_mul (PySem.F.args_tuple_mul_2 _ _) (tuple_mulW l its.toArray n dd sl k t d0 d1 d2 (by omega) d4 (by rw [size_rep, List.size_toArray]; exact fl)) ⟨ho, ?_⟩⟩)
  rw [size_rep]
  exact inv_newT (t' := s.toks) I (r.rep k.toNat) (by rw [PyProof.Rows.lm_len_rep_flat, sizeLine_eq]; omega) (fun _ _ e => Heap.get?_push_of_some _ e) (Nat.le_refl _) (Heap.get?_push_size _ rfl) rfl rfl rfl q
end
end G

set_option Elab.async false
set_option linter.all false
set_option maxRecDepth 100000
set_option maxHeartbeats 4000000
/- values told as data: what an expression comes to, by data alone -/
namespace G
open PySem L2 PySem.Spec PyProof.Rows

/-! ### heaps that grow -/
def Sub (H H' : Hp) : Prop := ∀ a o, H a = some o → H' a = some o
theorem Sub.refl (H : Hp) : Sub H H := fun _ _ h => h
theorem Sub.trans {H H1 H2 : Hp} (x : Sub H H1) (y : Sub H1 H2) : Sub H H2 := fun a o h => y a o (x a o h)
theorem Sub.none {H H' : Hp} (x : Sub H H') {a : Addr} (h : H' a = Option.none) : H a = Option.none := by
  cases e : H a with
  | none => rfl
  | some o => rw [x a o e] at h; cases h
theorem Sub.new {H : Hp} {p : Addr} (o : HO) (h : H p = Option.none) : Sub H (upd H p o) := fun a u e => by
  rw [upd_ne (ne_of_none e h)]; exact e
theorem Sub.upd {H H' : Hp} (x : Sub H H') {p : Addr} (o : HO) (h : H p = Option.none) : Sub H (upd H' p o) := fun a u e => by
  rw [upd_ne (ne_of_none e h)]; exact x a u e
theorem Sub.both {H H' : Hp} (x : Sub H H') (p : Addr) (o : HO) : Sub (L2.upd H p o) (L2.upd H' p o) := fun a u e => by
  by_cases h : a = p
  · subst h; rw [upd_same] at e ⊢; exact e
  · rw [upd_ne h] at e ⊢; exact x a u e
theorem Sub.rd {H H' : Hp} (x : Sub H H') {a : Addr} {u : HO} (h : Rd H a u) : Rd H' a u :=
  h.imp (x a _) fun ⟨o, q⟩ => ⟨o, x a _ q⟩

/-- a tuple that keeps no dict (what is needed to call its methods) -/
def Nd (B : Hp) (p : Addr) : Prop := ∃ o u, B p = some (.frz o u) ∧ o.dict = none ∧ o.cls = .type "tuple"
theorem Nd.mono {B B' : Hp} (x : Sub B B') {p : Addr} (h : Nd B p) : Nd B' p := by
  obtain ⟨o, u, e, r⟩ := h
  exact ⟨o, u, x _ _ e, r⟩
/-- dicts as data: their entries, behind one that no repr shows -/
def bigI : Int := 2 ^ 2000
def keyD : Key → PyData
  | .inl i => .int i
  | .inr t => .str t
def dctD (s : List (Key × PyData)) : PyData := .dict ((.int bigI, .none) :: s.map fun kv => (keyD kv.1, kv.2))
theorem big_no : (PyData.int bigI).showable = false := by decide +kernel
theorem dct_no (s : List (Key × PyData)) : (dctD s).showable = false := by
  unfold dctD
  rw [PyData.showable, PyData.showableKv, big_no]; rfl
theorem nd_sh {d : PyData} (h : SeqAt.shaped d = true) : d.hasDict = false := PyData.hasDict_of_canLay d (SeqAt.canLay_of_shaped h)
theorem nd_all {x : PyData} {xs : List PyData} (h : PyData.hasDictAll (x :: xs) = false) : x.hasDict = false ∧ PyData.hasDictAll xs = false := by
  rw [PyData.hasDictAll, Bool.or_eq_false_iff] at h
  exact h
mutual
/-- a value reads as data, all of its tuples keep no dict -/
inductive Dp (K : PySem.W.Frag) (B : Hp) : V → PyData → Prop
  | non : Dp K B .non .none
  | bl (x : Bool) : Dp K B (.bl x) (.bool x)
  | int (n : Int) : Dp K B (.int n) (.int n)
  | str (z : Str) : Dp K B (.str z) (.str z)
  | lst {p : Addr} {us : List V} {es : List PyData} (s : SqL K B p us) (r : DpAll K B us es) : Dp K B (.ref p) (.list es)
  | tup {p : Addr} {us : List V} {es : List PyData} (s : SqT K B p us) (n : Nd B p) (r : DpAll K B us es) : Dp K B (.ref p) (.tuple es)
  | dct {p : Addr} {r : List (Key × V)} {s : List (Key × PyData)} {o : Obj} (h : B p = some (.frz o (.dK r))) (hk : r.map (·.1) = s.map (·.1)) (t : DpAll K B (r.map (·.2)) (s.map (·.2))) : Dp K B (.ref p) (.dict ((.int bigI, .none) :: s.map fun kv => (keyD kv.1, kv.2)))
inductive DpAll (K : PySem.W.Frag) (B : Hp) : List V → List PyData → Prop
  | nil : DpAll K B [] []
  | cons {u : V} {us : List V} {e : PyData} {es : List PyData} (h : Dp K B u e) (r : DpAll K B us es) : DpAll K B (u :: us) (e :: es)
end
section
variable {K : PySem.W.Frag}
mutual
/-- in the library's words -/
theorem Dp.l2 {B : Hp} : ∀ {d : PyData} {v : V}, Dp K B v d → d.hasDict = false → L2.Dp K B v d
  | _, _, .non, _ => .non
  | _, _, .bl b, _ => .bl b
  | _, _, .int i, _ => .int i
  | _, _, .str z, _ => .str z
  | _, _, .lst s r, h => .lst s (DpAll.l2 r (by rwa [PyData.hasDict] at h))
  | _, _, .tup s _ r, h => .tup s (DpAll.l2 r (by rwa [PyData.hasDict] at h))
  | _, _, .dct _ _ _, h => by simp [PyData.hasDict] at h
theorem DpAll.l2 {B : Hp} : ∀ {ds : List PyData} {vs : List V}, DpAll K B vs ds → PyData.hasDictAll ds = false → L2.DpAll K B vs ds
  | _, _, .nil, _ => .nil
  | _, _, .cons h t, n => .cons (Dp.l2 h (nd_all n).1) (DpAll.l2 t (nd_all n).2)
end
mutual
theorem dp_mono {B B' : Hp} (x : Sub B B') : ∀ {d : PyData} {v : V}, Dp K B v d → Dp K B' v d
  | _, _, .non => .non
  | _, _, .bl b => .bl b
  | _, _, .int i => .int i
  | _, _, .str z => .str z
  | _, _, .lst s r => .lst (s.imp x.rd id) (dpAll_mono x r)
  | _, _, .tup s n r => .tup (s.imp x.rd id) (n.mono x) (dpAll_mono x r)
  | _, _, .dct h hk t => .dct (x _ _ h) hk (dpAll_mono x t)
theorem dpAll_mono {B B' : Hp} (x : Sub B B') : ∀ {ds : List PyData} {vs : List V}, DpAll K B vs ds → DpAll K B' vs ds
  | _, _, .nil => .nil
  | _, _, .cons h t => .cons (dp_mono x h) (dpAll_mono x t)
end
theorem DpAll.length {B : Hp} : ∀ {ds : List PyData} {vs : List V}, DpAll K B vs ds → vs.length = ds.length
  | _, _, .nil => rfl
  | _, _, .cons _ t => congrArg (· + 1) (DpAll.length t)
theorem DpAll.get {B : Hp} : ∀ {ds : List PyData} {vs : List V} {i : Nat} {v : V}, DpAll K B vs ds → vs[i]? = some v → ∃ d, ds[i]? = some d ∧ Dp K B v d
  | _, _, _, _, .nil, e => by simp at e
  | _, _, 0, _, .cons h _, e => by simp at e; subst e; exact ⟨_, rfl, h⟩
  | _, _, i + 1, v, .cons _ t, e => by
    obtain ⟨d, h1, h2⟩ := DpAll.get (i := i) (v := v) t (by simpa using e)
    exact ⟨d, by simpa using h1, h2⟩
theorem DpAll.get' {B : Hp} : ∀ {ds : List PyData} {vs : List V} {i : Nat} {d : PyData}, DpAll K B vs ds → ds[i]? = some d → ∃ v, vs[i]? = some v ∧ Dp K B v d
  | _, _, _, _, .nil, e => by simp at e
  | _, _, 0, _, .cons h _, e => by simp at e; subst e; exact ⟨_, rfl, h⟩
  | _, _, i + 1, d, .cons _ t, e => by
    obtain ⟨v, h1, h2⟩ := DpAll.get' (i := i) (d := d) t (by simpa using e)
    exact ⟨v, by simpa using h1, h2⟩
theorem DpAll.append {B : Hp} : ∀ {ds es : List PyData} {vs us : List V}, DpAll K B vs ds → DpAll K B us es → DpAll K B (vs ++ us) (ds ++ es)
  | _, _, _, _, .nil, s => s
  | _, _, _, _, .cons h t, s => .cons h (DpAll.append t s)
theorem DpAll.take {B : Hp} : ∀ {ds : List PyData} {vs : List V} (n : Nat), DpAll K B vs ds → DpAll K B (vs.take n) (ds.take n)
  | _, _, 0, _ => by simp; exact .nil
  | _, _, n + 1, .nil => by simp; exact .nil
  | _, _, n + 1, .cons h t => by simp; exact .cons h (DpAll.take n t)
theorem DpAll.drop {B : Hp} : ∀ {ds : List PyData} {vs : List V} (n : Nat), DpAll K B vs ds → DpAll K B (vs.drop n) (ds.drop n)
  | _, _, 0, r => r
  | _, _, n + 1, .nil => .nil
  | _, _, n + 1, .cons h t => DpAll.drop n t
theorem DpAll.reverse {B : Hp} : ∀ {ds : List PyData} {vs : List V}, DpAll K B vs ds → DpAll K B vs.reverse ds.reverse
  | _, _, .nil => .nil
  | _, _, .cons h t => by
    simp only [List.reverse_cons]
    exact G.DpAll.append (DpAll.reverse t) (.cons h .nil)
theorem DpAll.set {B : Hp} {v : V} {d : PyData} (q : Dp K B v d) : ∀ {ds : List PyData} {vs : List V} (i : Nat), DpAll K B vs ds → DpAll K B (vs.set i v) (ds.set i d)
  | _, _, _, .nil => .nil
  | _, _, 0, .cons h t => .cons q t
  | _, _, i + 1, .cons h t => .cons h (DpAll.set q i t)
theorem dpAll_ints {B : Hp} : ∀ ns : List Int, DpAll K B (ns.map V.int) (ns.map PyData.int)
  | [] => .nil
  | n :: r => .cons (.int n) (dpAll_ints r)
/-- values that read as whole numbers are these -/
theorem DpAll.ints {B : Hp} : ∀ {ns : List Int} {vs : List V}, DpAll K B vs (ns.map PyData.int) → vs = ns.map V.int
  | [], _, h => by cases h; rfl
  | n :: r, _, h => by
    cases h with
    | cons h t =>
      cases h
      rw [DpAll.ints t]; rfl
end

/-! ### what stands in a slot -/
structure Src where
  cells : List Int
  left : Int
  mixed : Int
  turn : Int

/-- an object that is our own, and may change -/
inductive Ob where
  | lst (xs : List PyData)
  | dk (kvs : List (Key × PyData))
  | src (a : Addr) (st : Src)
  | dn (w : World) (kvs : List (NestedKey × PyData))
  | srd (a l : Addr) (st : Src)
  | lsA (l : Addr) (xs : List Int)
inductive Sl where
  | un
  | d (x : PyData)
  | o (b : Ob)
abbrev Env' := List Sl

def srcKvs (l : Addr) (st : Src) : List (Key × V) :=
  [(.inr "cells", .ref l), (.inr "left", .int st.left), (.inr "mixed", .int st.mixed), (.inr "turn", .int st.turn)]

inductive KvAll (K : PySem.W.Frag) (B : Hp) : List (Key × V) → List (Key × PyData) → Prop
  | nil : KvAll K B [] []
  | cons {k : Key} {v : V} {d : PyData} {r : List (Key × V)} {s : List (Key × PyData)} : Dp K B v d → KvAll K B r s → KvAll K B ((k, v) :: r) ((k, d) :: s)
theorem KvAll.mono {K : PySem.W.Frag} {B B' : Hp} (x : Sub B B') : ∀ {r : List (Key × V)} {s : List (Key × PyData)}, KvAll K B r s → KvAll K B' r s
  | _, _, .nil => .nil
  | _, _, .cons h t => .cons (dp_mono x h) (t.mono x)
theorem KvAll.length {K : PySem.W.Frag} {B : Hp} : ∀ {r : List (Key × V)} {s : List (Key × PyData)}, KvAll K B r s → r.length = s.length
  | _, _, .nil => rfl
  | _, _, .cons _ t => congrArg (· + 1) t.length

/-- the object of a dict whose keys are tuples: where they stand, what is at each -/
def dnHO (w : World) (a : Addr) (xs : List (NestedKey × Addr × Value)) : HO := .ext fun h =>
  ∃ o es ep, h.get? a = some o ∧ o.ExactDict ∧ o.data = .dict es ep ∧ es.toList = xs.map fun x => (⟨NestedKey.hash w x.1, .ref x.2.1, x.2.2⟩ : DictEntry)
inductive NkAll (K : PySem.W.Frag) (B : Hp) : List (NestedKey × Addr × Value) → List (NestedKey × PyData) → Prop
  | nil : NkAll K B [] []
  | cons {k : NestedKey} {a : Addr} {u : Value} {v : V} {d : PyData} {r : List (NestedKey × Addr × Value)} {s : List (NestedKey × PyData)} :
      Dp K B (.ref a) k.data → k.depth ≤ 8 → RelV v u → Dp K B v d → NkAll K B r s → NkAll K B ((k, a, u) :: r) ((k, d) :: s)
theorem NkAll.mono {K : PySem.W.Frag} {B B' : Hp} (x : Sub B B') : ∀ {r : List (NestedKey × Addr × Value)} {s : List (NestedKey × PyData)}, NkAll K B r s → NkAll K B' r s
  | _, _, .nil => .nil
  | _, _, .cons h1 h2 h3 h4 t => .cons (dp_mono x h1) h2 h3 (dp_mono x h4) (t.mono x)
theorem NkAll.length {K : PySem.W.Frag} {B : Hp} : ∀ {r : List (NestedKey × Addr × Value)} {s : List (NestedKey × PyData)}, NkAll K B r s → r.length = s.length
  | _, _, .nil => rfl
  | _, _, .cons _ _ _ _ t => congrArg (· + 1) t.length

inductive ObAt (K : PySem.W.Frag) (B H : Hp) : V → List Addr → Ob → Prop
  | lst {a : Addr} {vs : List V} {xs : List PyData} : H a = some (.lst vs) → DpAll K B vs xs → ObAt K B H (.ref a) [a] (.lst xs)
  | dk {a : Addr} {r : List (Key × V)} {s : List (Key × PyData)} : H a = some (.dK r) → KvAll K B r s → ObAt K B H (.ref a) [a] (.dk s)
  | src {a l : Addr} {st : Src} : a ≠ l → H a = some (.dK (srcKvs l st)) → H l = some (.lst (st.cells.map V.int)) → ObAt K B H (.ref a) [a, l] (.src a st)
  | dn {w : World} {a : Addr} {xs : List (NestedKey × Addr × Value)} {kvs : List (NestedKey × PyData)} : H a = some (dnHO w a xs) → (a == sysModules) = false → xs.length ≤ 1000000 → (xs.map (·.1)).Nodup → NkAll K B xs kvs → ObAt K B H (.ref a) [a] (.dn w kvs)
  | srd {a l : Addr} {st : Src} : a ≠ l → H a = some (.dK (srcKvs l st)) → ObAt K B H (.ref a) [a] (.srd a l st)
  | lsA {l : Addr} {xs : List Int} : H l = some (.lst (xs.map V.int)) → ObAt K B H (.ref l) [l] (.lsA l xs)

theorem ObAt.live {K : PySem.W.Frag} {B H : Hp} {v : V} {as : List Addr} {b : Ob} (h : ObAt K B H v as b) : ∀ a ∈ as, ∃ o, H a = some o := by
  intro a ha
  cases h with
  | lst h _ =>
    have e : a = _ := List.mem_singleton.mp ha
    subst e; exact ⟨_, h⟩
  | dk h _ =>
    have e : a = _ := List.mem_singleton.mp ha
    subst e; exact ⟨_, h⟩
  | src n h1 h2 =>
    rcases List.mem_cons.mp ha with e | e
    · subst e; exact ⟨_, h1⟩
    · have e := List.mem_singleton.mp e
      subst e; exact ⟨_, h2⟩
  | dn h _ _ _ _ =>
    have e : a = _ := List.mem_singleton.mp ha
    subst e; exact ⟨_, h⟩
  | srd _ h =>
    have e : a = _ := List.mem_singleton.mp ha
    subst e; exact ⟨_, h⟩
  | lsA h =>
    have e : a = _ := List.mem_singleton.mp ha
    subst e; exact ⟨_, h⟩
theorem ObAt.mono {K : PySem.W.Frag} {B B' H H' : Hp} {v : V} {as : List Addr} {b : Ob} (h : ObAt K B H v as b) (x : Sub B B') (e : ∀ a ∈ as, H' a = H a) : ObAt K B' H' v as b := by
  cases h with
  | lst h r => exact .lst ((e _ List.mem_cons_self).trans h) (dpAll_mono x r)
  | dk h r => exact .dk ((e _ List.mem_cons_self).trans h) (r.mono x)
  | src n h1 h2 => exact .src n ((e _ List.mem_cons_self).trans h1) ((e _ (List.mem_cons_of_mem _ List.mem_cons_self)).trans h2)
  | dn h z l n t => exact .dn ((e _ List.mem_cons_self).trans h) z l n (t.mono x)
  | srd n h => exact .srd n ((e _ List.mem_cons_self).trans h)
  | lsA h => exact .lsA ((e _ List.mem_cons_self).trans h)

inductive SlAt (K : PySem.W.Frag) (B H : Hp) : Option V → List Addr → Sl → Prop
  | un {x : Option V} : SlAt K B H x [] .un
  | d {v : V} {x : PyData} : Dp K B v x → SlAt K B H (some v) [] (.d x)
  | o {v : V} {as : List Addr} {b : Ob} : ObAt K B H v as b → SlAt K B H (some v) as (.o b)
theorem SlAt.live {K : PySem.W.Frag} {B H : Hp} {v : Option V} {as : List Addr} {b : Sl} (h : SlAt K B H v as b) : ∀ a ∈ as, ∃ o, H a = some o := by
  cases h with
  | un => intro a z; cases z
  | d _ => intro a z; cases z
  | o h => exact h.live
theorem SlAt.mono {K : PySem.W.Frag} {B B' H H' : Hp} {v : Option V} {as : List Addr} {b : Sl} (h : SlAt K B H v as b) (x : Sub B B') (e : ∀ a ∈ as, H' a = H a) : SlAt K B' H' v as b := by
  cases h with
  | un => exact .un
  | d h => exact .d (dp_mono x h)
  | o h => exact .o (h.mono x e)

def gS (ρ : Env') (i : Nat) : Sl := (ρ[i]?).getD .un
def gV (σ : L2.St) (i : Nat) : Option V := (σ[i]?).getD none
theorem gS_set {ρ : Env'} {i j : Nat} {s : Sl} : gS (ρ.set i s) j = if j = i ∧ i < ρ.length then s else gS ρ j := by
  unfold gS
  by_cases e : j = i
  · subst e
    by_cases h : j < ρ.length
    · simp [h]
    · simp [h]
  · simp [e, List.getElem?_set_ne (Ne.symm e)]
theorem gV_set {σ : L2.St} {i j : Nat} {s : Option V} : gV (σ.set i s) j = if j = i ∧ i < σ.length then s else gV σ j := by
  unfold gV
  by_cases e : j = i
  · subst e
    by_cases h : j < σ.length
    · simp [h]
    · simp [h]
  · simp [e, List.getElem?_set_ne (Ne.symm e)]
theorem gV_some {σ : L2.St} {i : Nat} {v : V} (h : gV σ i = some v) : σ[i]? = some (some v) := by
  unfold gV at h
  cases e : σ[i]? with
  | none => rw [e] at h; cases h
  | some x => rw [e] at h; exact congrArg some h
theorem gS_some {ρ : Env'} {i : Nat} {s : Sl} (h : ρ[i]? = some s) : gS ρ i = s := by unfold gS; rw [h]; rfl

/-- the state: F is to be left as it is, Z stays out of what is told, B is what stands for good -/
structure Ok (K : PySem.W.Frag) (F : Hp) (Z : Addr → Prop) (B H : Hp) (σ : L2.St) (ρ : Env') : Prop where
  exF : Sub F H
  exB : Sub B H
  z : ∀ a, Z a → B a = none ∧ ∃ o, H a = some o
  len : σ.length = ρ.length
  own : ∃ own : Nat → List Addr, (∀ i a, a ∈ own i → F a = none ∧ B a = none ∧ ¬ Z a) ∧ (∀ i j a, a ∈ own i → a ∈ own j → i = j) ∧ ∀ i, SlAt K B H (gV σ i) (own i) (gS ρ i)

section
variable {K : PySem.W.Frag} {F : Hp} {Z : Addr → Prop} {B B' H H' : Hp} {σ σ' : L2.St} {ρ ρ' : Env'} {p a : Addr} {o : HO}
theorem Ok.fresh (k : Ok K F Z B H σ ρ) (h : H p = none) : F p = none ∧ B p = none ∧ ¬ Z p := by
  refine ⟨k.exF.none h, k.exB.none h, fun z => ?_⟩
  obtain ⟨_, o, e⟩ := k.z p z
  rw [h] at e; cases e
/-- what stands for good grows, nothing of ours is touched -/
theorem Ok.grow (k : Ok K F Z B H σ ρ) (xB : Sub B B') (xH : Sub H H') (xBH : Sub B' H') (out : ∀ a, H a ≠ none → B a = none → B' a = none) : Ok K F Z B' H' σ ρ := by
  refine ⟨k.exF.trans xH, xBH, fun a z => ?_, k.len, ?_⟩
  · obtain ⟨h1, o, h2⟩ := k.z a z
    exact ⟨out a (by rw [h2]; simp) h1, o, xH a o h2⟩
  · obtain ⟨own, h1, h2, h3⟩ := k.own
    refine ⟨own, fun i a ha => ?_, h2, fun i => (h3 i).mono xB fun a ha => ?_⟩
    · obtain ⟨q1, q2, q3⟩ := h1 i a ha
      obtain ⟨o, e⟩ := (h3 i).live a ha
      exact ⟨q1, out a (by rw [e]; simp) q2, q3⟩
    · obtain ⟨o, e⟩ := (h3 i).live a ha
      rw [e, xH a o e]
/-- a new thing that stands for good -/
theorem Ok.new (k : Ok K F Z B H σ ρ) (h : H p = none) (o : HO) : Ok K F Z (upd B p o) (upd H p o) σ ρ :=
  k.grow (Sub.new o (k.exB.none h)) (Sub.new o h) (k.exB.both p o) fun a ha hb => by
    rw [upd_ne fun e => ha (by rw [e]; exact h)]; exact hb
/-- a new thing that is nobody's yet -/
theorem Ok.loose (k : Ok K F Z B H σ ρ) (h : H p = none) (o : HO) : Ok K F Z B (upd H p o) σ ρ :=
  k.grow (Sub.refl B) (Sub.new o h) (k.exB.trans (Sub.new o h)) fun _ _ hb => hb
theorem Ok.at (k : Ok K F Z B H σ ρ) {i : Nat} {x : PyData} (h : gS ρ i = .d x) : ∃ v, gV σ i = some v ∧ Dp K B v x := by
  obtain ⟨own, _, _, h3⟩ := k.own
  have q := h3 i
  rw [h] at q
  generalize hv : gV σ i = w at q
  generalize hs : own i = as at q
  cases q with
  | d q => exact ⟨_, rfl, q⟩
theorem Ok.ob (k : Ok K F Z B H σ ρ) {i : Nat} {b : Ob} (h : gS ρ i = .o b) : ∃ v as, gV σ i = some v ∧ ObAt K B H v as b ∧ (∀ a ∈ as, F a = none ∧ B a = none ∧ ¬ Z a) := by
  obtain ⟨own, h1, _, h3⟩ := k.own
  have q := h3 i
  have q1 := h1 i
  rw [h] at q
  generalize hv : gV σ i = w at q
  generalize hs : own i = as at q q1
  cases q with
  | o q => exact ⟨_, _, rfl, q, q1⟩
theorem Ok.slot (k : Ok K F Z B H σ ρ) {i : Nat} {s : Sl} (h : ρ[i]? = some s) : i < σ.length := by
  rw [k.len]; exact (List.getElem?_eq_some_iff.mp h).1
/-- a slot is stored, data -/
theorem Ok.setD (k : Ok K F Z B H σ ρ) {i : Nat} {v : V} {x : PyData} (h : Dp K B v x) : Ok K F Z B H (σ.set i (some v)) (ρ.set i (.d x)) := by
  refine ⟨k.exF, k.exB, k.z, by simp [k.len], ?_⟩
  obtain ⟨own, h1, h2, h3⟩ := k.own
  refine ⟨fun j => if j = i ∧ i < ρ.length then [] else own j, fun j a ha => ?_, fun j m a ha hb => ?_, fun j => ?_⟩
  · dsimp only at ha
    split at ha
    · cases ha
    · exact h1 j a ha
  · dsimp only at ha hb
    split at ha
    · cases ha
    · split at hb
      · cases hb
      · exact h2 j m a ha hb
  · rw [gS_set, gV_set, k.len]
    dsimp only
    by_cases e : j = i ∧ i < ρ.length
    · rw [if_pos e, if_pos e, if_pos e]; exact .d h
    · rw [if_neg e, if_neg e, if_neg e]; exact h3 j
/-- a slot is stored, a new object of our own at p -/
theorem Ok.setO (k : Ok K F Z B H σ ρ) {i : Nat} {v : V} {as : List Addr} {b : Ob} (hi : i < ρ.length) (h : ObAt K B H v as b) (hf : ∀ a ∈ as, F a = none ∧ B a = none ∧ ¬ Z a) (hn : ∀ own : Nat → List Addr, (∀ j, SlAt K B H (gV σ j) (own j) (gS ρ j)) → (∀ j a, a ∈ own j → F a = none ∧ B a = none ∧ ¬ Z a) → ∀ j, j ≠ i → ∀ a ∈ as, a ∉ own j) :
    Ok K F Z B H (σ.set i (some v)) (ρ.set i (.o b)) := by
  refine ⟨k.exF, k.exB, k.z, by simp [k.len], ?_⟩
  obtain ⟨own, h1, h2, h3⟩ := k.own
  have hn := hn own h3 h1
  refine ⟨fun j => if j = i then as else own j, fun j a ha => ?_, fun j m a ha hb => ?_, fun j => ?_⟩
  · dsimp only at ha
    split at ha
    · exact hf a ha
    · exact h1 j a ha
  · dsimp only at ha hb
    by_cases e : j = i
    · by_cases e' : m = i
      · exact e.trans e'.symm
      · rw [if_pos e] at ha; rw [if_neg e'] at hb
        exact absurd hb (hn m e' a ha)
    · by_cases e' : m = i
      · rw [if_neg e] at ha; rw [if_pos e'] at hb
        exact absurd ha (hn j e a hb)
      · rw [if_neg e] at ha; rw [if_neg e'] at hb
        exact h2 j m a ha hb
  · rw [gS_set, gV_set, k.len]
    dsimp only
    by_cases e : j = i
    · subst e
      simp only [hi, and_true, if_true]
      exact .o h
    · simp only [e, false_and, if_false]
      exact h3 j
/-- forgetting -/
def Wk (ρ ρ' : Env') : Prop := ρ.length = ρ'.length ∧ ∀ i, gS ρ' i = gS ρ i ∨ gS ρ' i = .un
theorem Wk.refl (ρ : Env') : Wk ρ ρ := ⟨rfl, fun _ => .inl rfl⟩
theorem Wk.trans {ρ1 ρ2 ρ3 : Env'} (x : Wk ρ1 ρ2) (y : Wk ρ2 ρ3) : Wk ρ1 ρ3 := ⟨x.1.trans y.1, fun i => (y.2 i).elim (fun e => (x.2 i).imp (fun q => e.trans q) fun q => e.trans q) .inr⟩
theorem Wk.nil : Wk [] [] := .refl _
theorem Wk.cons {s : Sl} {r r' : Env'} (h : Wk r r') : Wk (s :: r) (s :: r') :=
  ⟨congrArg (· + 1) h.1, fun i => by cases i with | zero => exact .inl rfl | succ i => exact h.2 i⟩
theorem Wk.drop {s : Sl} {r r' : Env'} (h : Wk r r') : Wk (s :: r) (.un :: r') :=
  ⟨congrArg (· + 1) h.1, fun i => by cases i with | zero => exact .inr rfl | succ i => exact h.2 i⟩
def ifO : Sl → List Addr → List Addr
  | .o _, as => as
  | _, _ => []
theorem ifO_sub {s : Sl} {as : List Addr} {a : Addr} (h : a ∈ ifO s as) : a ∈ as := by
  cases s with
  | un => cases h
  | d _ => cases h
  | o _ => exact h
theorem Ok.weak (k : Ok K F Z B H σ ρ) (w : Wk ρ ρ') : Ok K F Z B H σ ρ' := by
  refine ⟨k.exF, k.exB, k.z, k.len.trans w.1, ?_⟩
  obtain ⟨own, h1, h2, h3⟩ := k.own
  refine ⟨fun j => ifO (gS ρ' j) (own j), fun j a ha => h1 j a (ifO_sub ha), fun j m a ha hb => h2 j m a (ifO_sub ha) (ifO_sub hb), fun j => ?_⟩
  have q := h3 j
  dsimp only
  rcases w.2 j with e | e
  · rw [e]
    generalize gV σ j = v at q ⊢
    generalize gS ρ j = s at q ⊢
    generalize own j = as at q ⊢
    cases q with
    | un => exact .un
    | d q => exact .d q
    | o q => exact .o q
  · rw [e]; exact .un
end
end G

set_option Elab.async false
set_option linter.all false
set_option maxRecDepth 100000
set_option maxHeartbeats 4000000
/- judgements on data -/
namespace G
open PySem L2 PySem.Spec PyProof.Rows

/-! ### the strongest readings -/
def sE (X : Cx) (e : Expr) : TE := fun σ H Q => ∃ t, PE X e t ∧ t σ H Q
def sT (X : Cx) (e : Expr) : TT := fun σ H Q => ∃ t, PT X e t ∧ t σ H Q
def sW (X : Cx) (e : Expr) : TT := fun σ H Q => ∃ t, PW X e t ∧ t σ H Q
def sA (X : Cx) (es : List Expr) : TA := fun σ H Q => ∃ t, PA X es t ∧ t σ H Q
def sS (X : Cx) (st : Stmt) : TS := fun D σ H => ∃ t, PS X st t ∧ t D σ H
def sB (X : Cx) (sts : List Stmt) : TS := fun D σ H => ∃ t, PSs X sts t ∧ t D σ H
def sG (X : Cx) (tg : Expr) : TG := fun v σ H Q => ∃ t, PG X tg t ∧ t v σ H Q
def sGs (X : Cx) (tgs : List Expr) : TGs := fun vs σ H Q => ∃ t, PGs X tgs t ∧ t vs σ H Q
section
variable {X : Cx}
theorem pe_s {e : Expr} : PE X e (sE X e) := ⟨fun pins s σ H Q I ⟨_, h, q⟩ => h.run pins s σ H Q I q⟩
theorem pt_s {e : Expr} : PT X e (sT X e) := ⟨fun pins s σ H Q I ⟨_, h, q⟩ => h.run pins s σ H Q I q⟩
theorem pw_s {e : Expr} : PW X e (sW X e) := ⟨fun wh pins s σ H Q I ⟨_, h, q⟩ => h.run wh pins s σ H Q I q⟩
theorem pa_s {es : List Expr} : PA X es (sA X es) := ⟨fun pos pins s σ H Q I ⟨_, h, q⟩ => h.run pos pins s σ H Q I q⟩
theorem ps_s {st : Stmt} : PS X st (sS X st) := ⟨fun pins s σ H D I ⟨_, h, q⟩ => h.run pins s σ H D I q⟩
theorem pb_s {sts : List Stmt} : PSs X sts (sB X sts) := ⟨fun pins s σ H D I ⟨_, h, q⟩ => h.run pins s σ H D I q⟩
theorem pg_s {tg : Expr} : PG X tg (sG X tg) := ⟨fun pins s σ H v u Q I r ⟨_, h, q⟩ => h.run pins s σ H v u Q I r q⟩
theorem pgs_s {tgs : List Expr} : PGs X tgs (sGs X tgs) := ⟨fun pins s σ H vs us Q I r ⟨_, h, q⟩ => h.run pins s σ H vs us Q I r q⟩
end

/-! ### what a value is -/
inductive R where
  | d (x : PyData)
  | o (i : Nat)
def VR (K : PySem.W.Frag) (B : Hp) (σ : L2.St) (v : V) : R → Prop
  | .d x => Dp K B v x
  | .o i => gV σ i = some v
theorem VR.mono {K : PySem.W.Frag} {B B' : Hp} {σ : L2.St} {v : V} {r : R} (x : Sub B B') (h : VR K B σ v r) : VR K B' σ v r := by
  cases r with
  | d _ => exact dp_mono x h
  | o _ => exact h

/-- p is of nobody -/
structure New (K : PySem.W.Frag) (F : Hp) (Z : Addr → Prop) (B H : Hp) (σ : L2.St) (ρ : Env') (p : Addr) : Prop where
  f : F p = none
  b : B p = none
  z : ¬ Z p
  o : ∀ j b v as, gS ρ j = .o b → gV σ j = some v → ObAt K B H v as b → p ∉ as

section
variable {K : PySem.W.Frag} {F : Hp} {Z : Addr → Prop} {B B' H H' : Hp} {σ σ' : L2.St} {ρ ρ' : Env'} {p a : Addr} {o : HO}
theorem ObAt.uni {v : V} {as as' : List Addr} {b : Ob} (h : ObAt K B H v as b) (h' : ObAt K B' H' v as' b) (e : ∀ a, a ∈ as' → H a = H' a) : as = as' := by
  cases h with
  | lst h _ => cases h'; rfl
  | dk h _ => cases h'; rfl
  | dn h _ _ _ _ => cases h'; rfl
  | srd _ _ => cases h'; rfl
  | lsA _ => cases h'; rfl
  | src n h1 h2 =>
    cases h' with
    | src n' h1' h2' =>
      have q := e _ List.mem_cons_self
      rw [h1, h1'] at q
      have q2 := HO.dK.inj (Option.some.inj q)
      unfold srcKvs at q2
      injection q2 with q3 _
      have q4 := (Prod.mk.inj q3).2
      rw [V.ref.inj q4]
theorem Ok.laid (k : Ok K F Z B H σ ρ) (h : H p = none) (o : HO) : New K F Z B (upd H p o) σ ρ p := by
  obtain ⟨f1, f2, f3⟩ := k.fresh h
  refine ⟨f1, f2, f3, fun j b v as h1 h2 h3 hp => ?_⟩
  obtain ⟨v', as', g1, g2, g3⟩ := k.ob h1
  rw [h2] at g1
  cases g1
  have live := g2.live
  have e : as = as' := ObAt.uni h3 g2 fun a ha => by
    obtain ⟨u, hu⟩ := live a ha
    rw [upd_ne (ne_of_none hu h)]
  rw [e] at hp
  obtain ⟨u, hu⟩ := live p hp
  rw [h] at hu; cases hu
theorem New.not (n : New K F Z B H σ ρ p) {own : Nat → List Addr} (h : ∀ j, SlAt K B H (gV σ j) (own j) (gS ρ j)) (j : Nat) : p ∉ own j := by
  have q := h j
  have no := n.o j
  generalize hv : gV σ j = v at q no
  generalize hs : gS ρ j = s at q no
  generalize own j = as at q
  cases q with
  | un => simp
  | d _ => simp
  | o q => exact no _ _ _ rfl rfl q
/-- it becomes one that stands for good -/
theorem Ok.adopt (k : Ok K F Z B H σ ρ) (n : New K F Z B H σ ρ p) (h : H p = some o) : Ok K F Z (upd B p o) H σ ρ := by
  obtain ⟨own, h1, h2, h3⟩ := k.own
  refine ⟨k.exF, fun a u e => ?_, fun a z => ?_, k.len, own, fun i a ha => ?_, h2, fun i => (h3 i).mono (Sub.new o n.b) fun _ _ => rfl⟩
  · by_cases ea : a = p
    · subst ea; rw [upd_same] at e; rw [h]; exact e
    · rw [upd_ne ea] at e; exact k.exB a u e
  · have ea : a ≠ p := fun e => n.z (e ▸ z)
    rw [upd_ne ea]; exact k.z a z
  · have ea : a ≠ p := fun e => n.not h3 i (e ▸ ha)
    rw [upd_ne ea]; exact h1 i a ha
/-- .. or one of our own -/
theorem Ok.take (k : Ok K F Z B H σ ρ) (n : New K F Z B H σ ρ p) {i : Nat} {b : Ob} (hi : i < ρ.length) (h : ObAt K B H (.ref p) [p] b) : Ok K F Z B H (σ.set i (some (.ref p))) (ρ.set i (.o b)) :=
  k.setO hi h (fun a ha => by have e := List.mem_singleton.mp ha; subst e; exact ⟨n.f, n.b, n.z⟩) fun own h3 _ j _ a ha => by
    have e := List.mem_singleton.mp ha; subst e; exact n.not h3 j
theorem Ok.setU (k : Ok K F Z B H σ ρ) {i : Nat} {v : V} : Ok K F Z B H (σ.set i (some v)) (ρ.set i .un) := by
  refine ⟨k.exF, k.exB, k.z, by simp [k.len], ?_⟩
  obtain ⟨own, h1, h2, h3⟩ := k.own
  refine ⟨fun j => if j = i ∧ i < ρ.length then [] else own j, fun j a ha => ?_, fun j m a ha hb => ?_, fun j => ?_⟩
  · dsimp only at ha
    split at ha
    · cases ha
    · exact h1 j a ha
  · dsimp only at ha hb
    split at ha
    · cases ha
    · split at hb
      · cases hb
      · exact h2 j m a ha hb
  · rw [gS_set, gV_set, k.len]
    dsimp only
    by_cases e : j = i ∧ i < ρ.length
    · rw [if_pos e, if_pos e, if_pos e]; exact .un
    · rw [if_neg e, if_neg e, if_neg e]; exact h3 j
/-- an object of our own turns into another, at the same places -/
theorem Ok.turn (k : Ok K F Z B H σ ρ) {i : Nat} {b b' : Ob} {v : V} {as : List Addr} (hs : gS ρ i = .o b) (hv : gV σ i = some v) (h : ObAt K B H v as b) (h' : ObAt K B H' v as b') (e : ∀ a, a ∉ as → H' a = H a) : Ok K F Z B H' σ (ρ.set i (.o b')) := by
  obtain ⟨own, h1, h2, h3⟩ := k.own
  have hi : i < ρ.length := by
    apply Classical.byContradiction
    intro n
    have : gS ρ i = .un := by unfold gS; rw [List.getElem?_eq_none (by omega)]; rfl
    rw [this] at hs; cases hs
  have eo : own i = as := by
    have q := h3 i
    rw [hs, hv] at q
    generalize own i = o at q
    cases q with
    | o q => exact ObAt.uni q h fun _ _ => rfl
  have out : ∀ {a : Addr} {Y : Hp} {u : HO}, Y a = some u → Y = F ∨ Y = B → a ∉ as := by
    intro a Y u q1 q2 q3
    rw [← eo] at q3
    obtain ⟨z1, z2, _⟩ := h1 i a q3
    rcases q2 with r | r
    · rw [r, z1] at q1; cases q1
    · rw [r, z2] at q1; cases q1
  refine ⟨fun a u q => ?_, fun a u q => ?_, fun a z => ?_, by simp [k.len], own, h1, h2, fun j => ?_⟩
  · rw [e a (out q (.inl rfl))]; exact k.exF a u q
  · rw [e a (out q (.inr rfl))]; exact k.exB a u q
  · have na : a ∉ as := fun q => (h1 i a (eo ▸ q)).2.2 z
    rw [e a na]; exact k.z a z
  · rw [gS_set]
    by_cases ej : j = i
    · subst ej
      simp only [hi, and_true, if_true]
      rw [hv, eo]; exact .o h'
    · simp only [ej, false_and, if_false]
      refine (h3 j).mono (Sub.refl B) fun a ha => e a fun q => ej (h2 j i a ha (eo ▸ q))
end

/-! ### judgements -/
section
variable (X : Cx)
def DE (ρ : Env') (e : Expr) (r : R) (ρ' : Env') : Prop := ∀ F Z B H σ Q, Ok X.K F Z B H σ ρ → (∀ v B' H', Ok X.K F Z B' H' σ ρ' → Sub B B' → VR X.K B' σ v r → Q v H') → sE X e σ H Q
/-- a new list -/
def DL (ρ : Env') (e : Expr) (xs : List PyData) (ρ' : Env') : Prop := ∀ F Z B H σ Q, Ok X.K F Z B H σ ρ →
  (∀ p vs B' H', Ok X.K F Z B' H' σ ρ' → Sub B B' → New X.K F Z B' H' σ ρ' p → H' p = some (.lst vs) → DpAll X.K B' vs xs → Q (.ref p) H') → sE X e σ H Q
def DT (ρ : Env') (e : Expr) (b : Bool) (ρ' : Env') : Prop := ∀ F Z B H σ Q, Ok X.K F Z B H σ ρ → (∀ B' H', Ok X.K F Z B' H' σ ρ' → Sub B B' → Q b H') → sT X e σ H Q
def DW (ρ : Env') (e : Expr) (b : Bool) (ρ' : Env') : Prop := ∀ F Z B H σ Q, Ok X.K F Z B H σ ρ → (∀ B' H', Ok X.K F Z B' H' σ ρ' → Sub B B' → Q b H') → sW X e σ H Q
def DA (ρ : Env') (es : List Expr) (ds : List PyData) (ρ' : Env') : Prop := ∀ F Z B H σ Q, Ok X.K F Z B H σ ρ → (∀ vs B' H', Ok X.K F Z B' H' σ ρ' → Sub B B' → DpAll X.K B' vs ds → Q vs H') → sA X es σ H Q
inductive O where
  | nx (ρ : Env')
  | rt (d : PyData) (ρ : Env')
  | bk (ρ : Env')
  | ct (ρ : Env')
def Fin' (K : PySem.W.Frag) (F : Hp) (Z : Addr → Prop) (B : Hp) (D : Ends) : O → Prop
  | .nx ρ' => ∀ B' H' σ', Ok K F Z B' H' σ' ρ' → Sub B B' → D.nx σ' H'
  | .bk ρ' => ∀ B' H' σ', Ok K F Z B' H' σ' ρ' → Sub B B' → D.bk σ' H'
  | .ct ρ' => ∀ B' H' σ', Ok K F Z B' H' σ' ρ' → Sub B B' → D.ct σ' H'
  | .rt d ρ' => ∀ v B' H' σ', Ok K F Z B' H' σ' ρ' → Sub B B' → Dp K B' v d → D.rt v H'
def DS (ρ : Env') (st : Stmt) (o : O) : Prop := ∀ F Z B H σ D, Ok X.K F Z B H σ ρ → Fin' X.K F Z B D o → sS X st D σ H
def DB (ρ : Env') (sts : List Stmt) (o : O) : Prop := ∀ F Z B H σ D, Ok X.K F Z B H σ ρ → Fin' X.K F Z B D o → sB X sts D σ H
end
theorem Fin'.sub {K : PySem.W.Frag} {F : Hp} {Z : Addr → Prop} {B B' : Hp} {D : Ends} {o : O} (x : Sub B B') (h : Fin' K F Z B D o) : Fin' K F Z B' D o := by
  cases o with
  | nx _ => exact fun B2 H2 σ2 k y => h B2 H2 σ2 k (x.trans y)
  | bk _ => exact fun B2 H2 σ2 k y => h B2 H2 σ2 k (x.trans y)
  | ct _ => exact fun B2 H2 σ2 k y => h B2 H2 σ2 k (x.trans y)
  | rt _ _ => exact fun v B2 H2 σ2 k y => h v B2 H2 σ2 k (x.trans y)

section
variable {X : Cx} {ρ ρ1 ρ2 ρ3 : Env'} {a b e : Expr} {es : List Expr} {r1 r2 r3 : R} {pos : Pos}

theorem DL.de {xs : List PyData} (h : DL X ρ e xs ρ1) : DE X ρ e (.d (.list xs)) ρ1 := fun F Z B H σ Q k q =>
  h F Z B H σ Q k fun p vs B' H' k' x n hp dv => q _ _ _ (k'.adopt n hp) (x.trans (Sub.new _ n.b)) (Dp.lst (SqL.of upd_same) (dpAll_mono (Sub.new _ n.b) dv))

/-! ### names, constants -/
theorem de_name {i : Nat} {x : Str} {y : PyData} (hs : ρ[i]? = some (.d y) := by rfl) (hN : X.N[i]? = some x := by rfl) (hv : Vis X.env.scope x := by first | exact Or.inl rfl | exact Or.inr (Or.inl rfl) | exact Or.inr (Or.inr rfl)) (hd : (x == ("__debug__" : Str)) = false := by decide)
    (hcd : (x == ("__classdict__" : Str)) = false := by decide) : DE X ρ (.Name x pos) (.d y) ρ := fun F Z B H σ Q k q => by
  obtain ⟨v, h1, h2⟩ := k.at (gS_some hs)
  exact ⟨_, pe_var hN hv hd hcd, v, gV_some h1, q v B H k (Sub.refl B) h2⟩
theorem de_own {i : Nat} {x : Str} {b : Ob} (hs : ρ[i]? = some (.o b) := by rfl) (hN : X.N[i]? = some x := by rfl) (hv : Vis X.env.scope x := by first | exact Or.inl rfl | exact Or.inr (Or.inl rfl) | exact Or.inr (Or.inr rfl)) (hd : (x == ("__debug__" : Str)) = false := by decide)
    (hcd : (x == ("__classdict__" : Str)) = false := by decide) : DE X ρ (.Name x pos) (.o i) ρ := fun F Z B H σ Q k q => by
  obtain ⟨v, as, h1, h2, _⟩ := k.ob (gS_some hs)
  exact ⟨_, pe_var hN hv hd hcd, v, gV_some h1, q v B H k (Sub.refl B) h1⟩
theorem de_int {i j} : DE X ρ (.Constant (.int i) j pos) (.d (.int i)) ρ := fun F Z B H σ Q k q => ⟨_, pe_int, q _ B H k (Sub.refl B) (.int i)⟩
theorem de_str {i j} : DE X ρ (.Constant (.str i) j pos) (.d (.str i)) ρ := fun F Z B H σ Q k q => ⟨_, pe_str, q _ B H k (Sub.refl B) (.str i)⟩
theorem de_bl {i j} : DE X ρ (.Constant (.bool i) j pos) (.d (.bool i)) ρ := fun F Z B H σ Q k q => ⟨_, pe_bl, q _ B H k (Sub.refl B) (.bl i)⟩
theorem de_non {j} : DE X ρ (.Constant .none j pos) (.d .none) ρ := fun F Z B H σ Q k q => ⟨_, pe_non, q _ B H k (Sub.refl B) .non⟩

/-! ### two parts, then an operation -/
theorem DE.two (ha : DE X ρ a r1 ρ1) (hb : DE X ρ1 b r2 ρ2) {F : Hp} {Z : Addr → Prop} {B H : Hp} {σ : L2.St} {Q : V → V → Hp → Prop} (k : Ok X.K F Z B H σ ρ)
    (q : ∀ v1 v2 B2 H2, Ok X.K F Z B2 H2 σ ρ2 → Sub B B2 → VR X.K B2 σ v1 r1 → VR X.K B2 σ v2 r2 → Q v1 v2 H2) : sE X a σ H fun x H1 => sE X b σ H1 fun y H2 => Q x y H2 :=
  ha F Z B H σ _ k fun v1 B1 H1 k1 x1 w1 => hb F Z B1 H1 σ _ k1 fun v2 B2 H2 k2 x2 w2 => q v1 v2 B2 H2 k2 (x1.trans x2) (w1.mono x2) w2
/-- what an operation by values does -/
def OpD (K : PySem.W.Frag) (rr : R2) (ρ : Env') (r1 r2 r3 : R) : Prop := ∀ F Z B H σ Q v1 v2, Ok K F Z B H σ ρ → VR K B σ v1 r1 → VR K B σ v2 r2 → (∀ v3 B' H', Ok K F Z B' H' σ ρ → Sub B B' → VR K B' σ v3 r3 → Q v3 H') → rr v1 v2 H Q
theorem de_op {op : Operator} {rr : R2} (ho : OpR X (binaryOp op) rr) (hd : OpD X.K rr ρ2 r1 r2 r3) (ha : DE X ρ a r1 ρ1) (hb : DE X ρ1 b r2 ρ2) : DE X ρ (.BinOp a op b pos) r3 ρ2 := fun F Z B H σ Q k q =>
  ⟨_, pe_op ho pe_s pe_s, DE.two ha hb k fun v1 v2 B2 H2 k2 x w1 w2 => hd F Z B2 H2 σ Q v1 v2 k2 w1 w2 fun v3 B3 H3 k3 y w3 => q v3 B3 H3 k3 (x.trans y) w3⟩
theorem de_cmp {op : CmpOp} {rr : R2} (ho : OpR X (compareOp op) rr) (hd : OpD X.K rr ρ2 r1 r2 r3) (hm : behindInMarks op b = false) (ha : DE X ρ a r1 ρ1) (hb : DE X ρ1 b r2 ρ2) : DE X ρ (.Compare a [op] [b] pos) r3 ρ2 := fun F Z B H σ Q k q =>
  ⟨_, pe_cmpR ho pe_s pe_s hm, DE.two ha hb k fun v1 v2 B2 H2 k2 x w1 w2 => hd F Z B2 H2 σ Q v1 v2 k2 w1 w2 fun v3 B3 H3 k3 y w3 => q v3 B3 H3 k3 (x.trans y) w3⟩
theorem dt_cmp {op : CmpOp} {rr : R2} {c : Bool} (ho : OpR X (compareOp op) rr) (hd : OpD X.K rr ρ2 r1 r2 (.d (.bool c))) (hm : behindInMarks op b = false) (ha : DE X ρ a r1 ρ1) (hb : DE X ρ1 b r2 ρ2) : DT X ρ (.Compare a [op] [b] pos) c ρ2 := fun F Z B H σ Q k q =>
  ⟨_, pt_cmpR ho pe_s pe_s hm, DE.two ha hb k fun v1 v2 B2 H2 k2 x w1 w2 => hd F Z B2 H2 σ _ v1 v2 k2 w1 w2 fun v3 B3 H3 k3 y w3 => by
    cases w3
    exact ⟨c, rfl, q B3 H3 k3 (x.trans y)⟩⟩

section
variable {i j : Int}
theorem od_I0 {g : Int → Int → V} {y : PyData} (h : ∀ (K : PySem.W.Frag) B, Dp K B (g i j) y) {K : PySem.W.Frag} : OpD K (rI0 g) ρ (.d (.int i)) (.d (.int j)) (.d y) := fun F Z B H σ Q v1 v2 k w1 w2 q => by
  cases w1; cases w2
  exact ⟨i, j, rfl, rfl, q _ B H k (Sub.refl B) (h K B)⟩
theorem od_I {C : Int → Int → Prop} {g : Int → Int → V} {y : PyData} (hc : C i j) (h : ∀ (K : PySem.W.Frag) B, Dp K B (g i j) y) {K : PySem.W.Frag} : OpD K (rI C g) ρ (.d (.int i)) (.d (.int j)) (.d y) := fun F Z B H σ Q v1 v2 k w1 w2 q => by
  cases w1; cases w2
  exact ⟨i, j, rfl, rfl, hc, q _ B H k (Sub.refl B) (h K B)⟩
theorem de_add (ha : DE X ρ a (.d (.int i)) ρ1) (hb : DE X ρ1 b (.d (.int j)) ρ2) : DE X ρ (.BinOp a .Add b pos) (.d (.int (i + j))) ρ2 := de_op op_add (od_I0 fun _ _ => .int _) ha hb
theorem de_sub (ha : DE X ρ a (.d (.int i)) ρ1) (hb : DE X ρ1 b (.d (.int j)) ρ2) : DE X ρ (.BinOp a .Sub b pos) (.d (.int (i - j))) ρ2 := de_op op_sub (od_I0 fun _ _ => .int _) ha hb
theorem de_mul (hc : CMul i j) (ha : DE X ρ a (.d (.int i)) ρ1) (hb : DE X ρ1 b (.d (.int j)) ρ2) : DE X ρ (.BinOp a .Mult b pos) (.d (.int (i * j))) ρ2 := de_op op_mul (od_I hc fun _ _ => .int _) ha hb
theorem de_mod (hc : 0 < j) (ha : DE X ρ a (.d (.int i)) ρ1) (hb : DE X ρ1 b (.d (.int j)) ρ2) : DE X ρ (.BinOp a .Mod b pos) (.d (.int (i % j))) ρ2 := de_op op_mod (od_I (C := fun _ m => 0 < m) hc fun _ _ => .int _) ha hb
theorem de_fdiv (hc : CDiv i j) (ha : DE X ρ a (.d (.int i)) ρ1) (hb : DE X ρ1 b (.d (.int j)) ρ2) : DE X ρ (.BinOp a .FloorDiv b pos) (.d (.int (i / j))) ρ2 := de_op op_fdiv (od_I hc fun _ _ => .int _) ha hb
theorem dt_lt (ha : DE X ρ a (.d (.int i)) ρ1) (hb : DE X ρ1 b (.d (.int j)) ρ2) : DT X ρ (.Compare a [.Lt] [b] pos) (decide (i < j)) ρ2 := dt_cmp op_lt (od_I0 fun _ _ => .bl _) (nomark b) ha hb
theorem dt_le (ha : DE X ρ a (.d (.int i)) ρ1) (hb : DE X ρ1 b (.d (.int j)) ρ2) : DT X ρ (.Compare a [.LtE] [b] pos) (decide (i ≤ j)) ρ2 := dt_cmp op_le (od_I0 fun _ _ => .bl _) (nomark b) ha hb
theorem dt_gt (ha : DE X ρ a (.d (.int i)) ρ1) (hb : DE X ρ1 b (.d (.int j)) ρ2) : DT X ρ (.Compare a [.Gt] [b] pos) (decide (j < i)) ρ2 := dt_cmp op_gt (od_I0 fun _ _ => .bl _) (nomark b) ha hb
theorem dt_ge (ha : DE X ρ a (.d (.int i)) ρ1) (hb : DE X ρ1 b (.d (.int j)) ρ2) : DT X ρ (.Compare a [.GtE] [b] pos) (decide (j ≤ i)) ρ2 := dt_cmp op_ge (od_I0 fun _ _ => .bl _) (nomark b) ha hb
theorem de_lt (ha : DE X ρ a (.d (.int i)) ρ1) (hb : DE X ρ1 b (.d (.int j)) ρ2) : DE X ρ (.Compare a [.Lt] [b] pos) (.d (.bool (decide (i < j)))) ρ2 := de_cmp op_lt (od_I0 fun _ _ => .bl _) (nomark b) ha hb
end

/-! ### equality of data -/
section
variable {x y : PyData}
theorem od_eqD {K : PySem.W.Frag} (hx : SeqAt.shaped x = true) (hy : SeqAt.shaped y = true) : OpD K (rEqD K) ρ (.d x) (.d y) (.d (.bool (PyData.eqv x y))) := fun F Z B H σ Q v1 v2 k w1 w2 q =>
  ⟨x, y, (dp_mono k.exB w1).l2 (nd_sh hx), (dp_mono k.exB w2).l2 (nd_sh hy), hx, hy, q _ B H k (Sub.refl B) (.bl _)⟩
theorem od_neD {K : PySem.W.Frag} (hx : SeqAt.shaped x = true) (hy : SeqAt.shaped y = true) : OpD K (rNeD K) ρ (.d x) (.d y) (.d (.bool (!PyData.eqv x y))) := fun F Z B H σ Q v1 v2 k w1 w2 q =>
  ⟨x, y, (dp_mono k.exB w1).l2 (nd_sh hx), (dp_mono k.exB w2).l2 (nd_sh hy), hx, hy, q _ B H k (Sub.refl B) (.bl _)⟩
end
end
/-- a new tuple, all of it data -/
theorem Ok.newT {K : PySem.W.Frag} {F : Hp} {Z : Addr → Prop} {B H : Hp} {σ : L2.St} {ρ : Env'} {vs : List V} {xs : List PyData} {Q : VK} (k : Ok K F Z B H σ ρ) (w : DpAll K B vs xs)
    (q : ∀ v B' H', Ok K F Z B' H' σ ρ → Sub B B' → Dp K B' v (.tuple xs) → Q v H') : NewT H vs Q := fun p o hp hd hc => by
  have n := k.fresh hp
  exact q _ _ _ (k.new hp _) (Sub.new _ n.2.1) (.tup (.inl (.inr ⟨o, upd_same⟩)) ⟨o, _, upd_same, hd, hc⟩ (dpAll_mono (Sub.new _ n.2.1) w))
end G

set_option Elab.async false
set_option linter.all false
set_option maxRecDepth 100000
set_option maxHeartbeats 4000000
/- rules for expressions, on data -/
namespace G
open PySem L2 PySem.Spec PyProof.Rows

section
variable {X : Cx} {ρ ρ1 ρ2 ρ3 : Env'} {a b c e : Expr} {es : List Expr} {r r1 r2 r3 : R} {pos : Pos}

/-! ### tests -/
theorem dt_eqD {x y : PyData} (hu : X.A.units + 64 < cLine) (hx : SeqAt.shaped x = true) (hy : SeqAt.shaped y = true) (ha : DE X ρ a (.d x) ρ1) (hb : DE X ρ1 b (.d y) ρ2) : DT X ρ (.Compare a [.Eq] [b] pos) (PyData.eqv x y) ρ2 :=
  dt_cmp (op_eqD hu) (od_eqD hx hy) (nomark b) ha hb
theorem dt_neD {x y : PyData} (hu : X.A.units + 64 < cLine) (hx : SeqAt.shaped x = true) (hy : SeqAt.shaped y = true) (ha : DE X ρ a (.d x) ρ1) (hb : DE X ρ1 b (.d y) ρ2) : DT X ρ (.Compare a [.NotEq] [b] pos) (!PyData.eqv x y) ρ2 :=
  dt_cmp (op_neD hu) (od_neD hx hy) (nomark b) ha hb
theorem de_eqD {x y : PyData} (hu : X.A.units + 64 < cLine) (hx : SeqAt.shaped x = true) (hy : SeqAt.shaped y = true) (ha : DE X ρ a (.d x) ρ1) (hb : DE X ρ1 b (.d y) ρ2) : DE X ρ (.Compare a [.Eq] [b] pos) (.d (.bool (PyData.eqv x y))) ρ2 :=
  de_cmp (op_eqD hu) (od_eqD hx hy) (nomark b) ha hb
theorem od_eqI {K : PySem.W.Frag} {i j : Int} : OpD K rEq ρ (.d (.int i)) (.d (.int j)) (.d (.bool (decide (i = j)))) := fun F Z B H σ Q v1 v2 k w1 w2 q => by
  cases w1; cases w2
  have e : decide (V.int i = V.int j) = decide (i = j) := by simp
  exact ⟨rfl, e ▸ q _ B H k (Sub.refl B) (.bl _)⟩
theorem od_neI {K : PySem.W.Frag} {i j : Int} : OpD K rNe ρ (.d (.int i)) (.d (.int j)) (.d (.bool (!decide (i = j)))) := fun F Z B H σ Q v1 v2 k w1 w2 q => by
  cases w1; cases w2
  have e : decide (V.int i = V.int j) = decide (i = j) := by simp
  exact ⟨rfl, by rw [e]; exact q _ B H k (Sub.refl B) (.bl _)⟩
theorem od_neS {K : PySem.W.Frag} {i j : Str} : OpD K rNe ρ (.d (.str i)) (.d (.str j)) (.d (.bool (!decide (i = j)))) := fun F Z B H σ Q v1 v2 k w1 w2 q => by
  cases w1; cases w2
  have e : decide (V.str i = V.str j) = decide (i = j) := by simp
  exact ⟨rfl, by rw [e]; exact q _ B H k (Sub.refl B) (.bl _)⟩
theorem dt_eqI {i j : Int} (ha : DE X ρ a (.d (.int i)) ρ1) (hb : DE X ρ1 b (.d (.int j)) ρ2) : DT X ρ (.Compare a [.Eq] [b] pos) (decide (i = j)) ρ2 := dt_cmp op_eq od_eqI (nomark b) ha hb
theorem dt_neI {i j : Int} (ha : DE X ρ a (.d (.int i)) ρ1) (hb : DE X ρ1 b (.d (.int j)) ρ2) : DT X ρ (.Compare a [.NotEq] [b] pos) (!decide (i = j)) ρ2 := dt_cmp op_ne od_neI (nomark b) ha hb
theorem dt_neS {i j : Str} (ha : DE X ρ a (.d (.str i)) ρ1) (hb : DE X ρ1 b (.d (.str j)) ρ2) : DT X ρ (.Compare a [.NotEq] [b] pos) (!decide (i = j)) ρ2 := dt_cmp op_ne od_neS (nomark b) ha hb
def isNon : PyData → Bool
  | .none => true
  | _ => false
theorem dp_non {K : PySem.W.Frag} {B : Hp} {v : V} {x : PyData} (h : Dp K B v x) : decide (v = .non) = isNon x := by
  cases h <;> first | rfl | simp [isNon]
theorem dt_isN {x : PyData} {j pos'} (ha : DE X ρ a (.d x) ρ1) : DT X ρ (.Compare a [.Is] [.Constant .none j pos'] pos) (isNon x) ρ1 :=
  dt_cmp op_isN (fun F Z B H σ Q v1 v2 k w1 w2 q => by
    cases w2
    exact ⟨rfl, q _ B H k (Sub.refl B) (by rw [dp_non w1]; exact .bl _)⟩) (nomark _) ha de_non
theorem dt_notN {x : PyData} {j pos'} (ha : DE X ρ a (.d x) ρ1) : DT X ρ (.Compare a [.IsNot] [.Constant .none j pos'] pos) (!isNon x) ρ1 :=
  dt_cmp op_notN (fun F Z B H σ Q v1 v2 k w1 w2 q => by
    cases w2
    exact ⟨rfl, q _ B H k (Sub.refl B) (by rw [dp_non w1]; exact .bl _)⟩) (nomark _) ha de_non
theorem dt_not {x : Bool} (h : DT X ρ a x ρ1) : DT X ρ (.UnaryOp .Not a pos) (!x) ρ1 := fun F Z B H σ Q k q => ⟨_, pt_not pt_s, h F Z B H σ _ k q⟩
theorem DW.dt {x : Bool} (h : DW X ρ a x ρ1) : DT X ρ a x ρ1 := fun F Z B H σ Q k q => ⟨_, pw_s.pt, h F Z B H σ Q k q⟩
theorem dw_and1 {x : Bool} (h : DT X ρ a x ρ1) : DW X ρ (.BoolOp .And [a] pos) x ρ1 := fun F Z B H σ Q k q => ⟨_, pw_and1 pt_s, h F Z B H σ Q k q⟩
theorem dw_or1 {x : Bool} (h : DT X ρ a x ρ1) : DW X ρ (.BoolOp .Or [a] pos) x ρ1 := fun F Z B H σ Q k q => ⟨_, pw_or1 pt_s, h F Z B H σ Q k q⟩
/-- and: the rest is asked where the first is true; ρ2 is the end in both cases -/
theorem dw_and {x y : Bool} (h : DT X ρ a x ρ1) (h1 : x = true → DW X ρ1 (.BoolOp .And (b :: es) pos) y ρ2) (h2 : x = false → ρ2 = ρ1) : DW X ρ (.BoolOp .And (a :: b :: es) pos) (x && y) ρ2 := fun F Z B H σ Q k q =>
  ⟨_, pw_and pt_s pw_s, h F Z B H σ _ k fun B1 H1 k1 x1 => by
    cases x with
    | true =>
      rw [if_pos rfl]
      exact h1 rfl F Z B1 H1 σ Q k1 fun B2 H2 k2 x2 => q B2 H2 k2 (x1.trans x2)
    | false =>
      rw [if_neg (by decide)]
      have e := h2 rfl
      subst e
      exact q B1 H1 k1 x1⟩
theorem dw_or {x y : Bool} (h : DT X ρ a x ρ1) (h1 : x = false → DW X ρ1 (.BoolOp .Or (b :: es) pos) y ρ2) (h2 : x = true → ρ2 = ρ1) : DW X ρ (.BoolOp .Or (a :: b :: es) pos) (x || y) ρ2 := fun F Z B H σ Q k q =>
  ⟨_, pw_or pt_s pw_s, h F Z B H σ _ k fun B1 H1 k1 x1 => by
    cases x with
    | false =>
      rw [if_neg (by decide)]
      exact h1 rfl F Z B1 H1 σ Q k1 fun B2 H2 k2 x2 => q B2 H2 k2 (x1.trans x2)
    | true =>
      rw [if_pos rfl]
      have e := h2 rfl
      subst e
      exact q B1 H1 k1 x1⟩
theorem dt_is {x y : Bool} (h : DT X ρ a x ρ1) (e : x = y) : DT X ρ a y ρ1 := e ▸ h
theorem de_is {x y : PyData} (h : DE X ρ a (.d x) ρ1) (e : x = y) : DE X ρ a (.d y) ρ1 := e ▸ h
/-- a value that is a bool, as a test -/
theorem dt_val {x : Bool} (h : DE X ρ a (.d (.bool x)) ρ1) (he : ∀ whole, isTrue a X.env whole = (do let v ← whole; standAt a.pos; holding [v] (truthy v)) := by intro _; rfl) : DT X ρ a x ρ1 := fun F Z B H σ Q k q =>
  ⟨_, pt_val pe_s he, h F Z B H σ _ k fun v B1 H1 k1 x1 w => by
    cases w
    exact ⟨x, rfl, q B1 H1 k1 x1⟩⟩
theorem de_ifE {x : Bool} {y : PyData} (h : DT X ρ c x ρ1) (h1 : x = true → DE X ρ1 a (.d y) ρ2) (h2 : x = false → DE X ρ1 b (.d y) ρ2) : DE X ρ (.IfExp c a b pos) (.d y) ρ2 := fun F Z B H σ Q k q =>
  ⟨_, pe_ifExp pt_s pe_s pe_s, h F Z B H σ _ k fun B1 H1 k1 x1 => by
    cases x with
    | true =>
      rw [if_pos rfl]
      exact h1 rfl F Z B1 H1 σ Q k1 fun v B2 H2 k2 x2 w => q v B2 H2 k2 (x1.trans x2) w
    | false =>
      rw [if_neg (by decide)]
      exact h2 rfl F Z B1 H1 σ Q k1 fun v B2 H2 k2 x2 w => q v B2 H2 k2 (x1.trans x2) w⟩

/-! ### lists of parts -/
theorem da_nil : DA X ρ [] [] ρ := fun F Z B H σ Q k q => ⟨_, pa_nil, q [] B H k (Sub.refl B) .nil⟩
theorem da_cons {x : PyData} {xs : List PyData} (h : DE X ρ e (.d x) ρ1) (t : DA X ρ1 es xs ρ2) (hs : starEach (e :: es) X.env = (false, eval e X.env) :: starEach es X.env := by rfl) : DA X ρ (e :: es) (x :: xs) ρ2 := fun F Z B H σ Q k q =>
  ⟨_, pa_cons pe_s pa_s hs, h F Z B H σ _ k fun v B1 H1 k1 x1 w1 => t F Z B1 H1 σ _ k1 fun vs B2 H2 k2 x2 w2 => q (v :: vs) B2 H2 k2 (x1.trans x2) (.cons (dp_mono x2 w1) w2)⟩
theorem de_tup {xs : List PyData} {x1} (h : DA X ρ es xs ρ1) (hz : xs.length ≤ sizeLine := by first | exact Nat.le_trans (Nat.le_of_ble_eq_true rfl) (by decide : 64 ≤ sizeLine) | assumption) : DE X ρ (.Tuple es x1 pos) (.d (.tuple xs)) ρ1 := fun F Z B H σ Q k q =>
  ⟨_, pe_tupN pa_s, h F Z B H σ _ k fun vs B1 H1 k1 y w => ⟨by rw [DpAll.length w]; exact hz, k1.newT w fun v B2 H2 k2 y2 w2 => q v B2 H2 k2 (y.trans y2) w2⟩⟩
theorem dl_lst {xs : List PyData} (h : DA X ρ es xs ρ1) (hz : xs.length ≤ sizeLine := by first | exact Nat.le_trans (Nat.le_of_ble_eq_true rfl) (by decide : 64 ≤ sizeLine) | assumption) : DL X ρ (.List es pos) xs ρ1 := fun F Z B H σ Q k q =>
  ⟨_, pe_lst pa_s, h F Z B H σ _ k fun vs B1 H1 k1 y w => ⟨by rw [DpAll.length w]; exact hz, fun p hp => q p vs B1 _ (k1.loose hp _) y (k1.laid hp _) upd_same w⟩⟩

/-! ### what reads as a list, a tuple -/
inductive RL (ρ : Env') : R → List PyData → Prop
  | d {xs : List PyData} : RL ρ (.d (.list xs)) xs
  | o {i : Nat} {xs : List PyData} : ρ[i]? = some (.o (.lst xs)) → RL ρ (.o i) xs
theorem RL.at {K : PySem.W.Frag} {F : Hp} {Z : Addr → Prop} {B H : Hp} {σ : L2.St} {v : V} {xs : List PyData} (h : RL ρ r xs) (k : Ok K F Z B H σ ρ) (w : VR K B σ v r) : ∃ p vs, v = .ref p ∧ SqL K H p vs ∧ DpAll K B vs xs := by
  cases h with
  | d =>
    cases w with
    | lst s t => exact ⟨_, _, rfl, s.imp k.exB.rd id, t⟩
  | o hs =>
    obtain ⟨v', as, h1, h2, _⟩ := k.ob (gS_some hs)
    have w' : gV σ _ = some v := w
    rw [w'] at h1
    cases h1
    cases h2 with
    | lst h t => exact ⟨_, _, rfl, SqL.of h, t⟩
theorem tup_at {K : PySem.W.Frag} {F : Hp} {Z : Addr → Prop} {B H : Hp} {σ : L2.St} {v : V} {xs : List PyData} (k : Ok K F Z B H σ ρ) (w : VR K B σ v (.d (.tuple xs))) : ∃ p vs, v = .ref p ∧ SqT K H p vs ∧ (SqT K B p vs ∧ Nd B p) ∧ DpAll K B vs xs := by
  cases w with
  | tup s n t => exact ⟨_, _, rfl, s.imp k.exB.rd id, ⟨s, n⟩, t⟩
/-- what reads as either -/
inductive RQ (ρ : Env') : R → List PyData → Prop
  | l {r : R} {xs : List PyData} : RL ρ r xs → RQ ρ r xs
  | t {xs : List PyData} : RQ ρ (.d (.tuple xs)) xs
theorem RQ.at {K : PySem.W.Frag} {F : Hp} {Z : Addr → Prop} {B H : Hp} {σ : L2.St} {v : V} {xs : List PyData} (h : RQ ρ r xs) (k : Ok K F Z B H σ ρ) (w : VR K B σ v r) : ∃ p vs, v = .ref p ∧ (SqL K H p vs ∨ SqT K H p vs) ∧ DpAll K B vs xs := by
  cases h with
  | l h =>
    obtain ⟨p, vs, e, s, t⟩ := h.at k w
    exact ⟨p, vs, e, .inl s, t⟩
  | t =>
    obtain ⟨p, vs, e, s, _, t⟩ := tup_at k w
    exact ⟨p, vs, e, .inr s, t⟩

/-! ### calls of built-ins with one argument -/
def C1 (K : PySem.W.Frag) (rr : List V → Hp → VK → Prop) (ρ : Env') (r r3 : R) : Prop := ∀ F Z B H σ Q v, Ok K F Z B H σ ρ → VR K B σ v r → (∀ v3 B' H', Ok K F Z B' H' σ ρ → Sub B B' → VR K B' σ v3 r3 → Q v3 H') → rr [v] H Q
def C1L (K : PySem.W.Frag) (rr : List V → Hp → VK → Prop) (ρ : Env') (r : R) (xs : List PyData) : Prop := ∀ F Z B H σ Q v, Ok K F Z B H σ ρ → VR K B σ v r →
  (∀ p vs B' H', Ok K F Z B' H' σ ρ → Sub B B' → New K F Z B' H' σ ρ p → H' p = some (.lst vs) → DpAll K B' vs xs → Q (.ref p) H') → rr [v] H Q
section
variable {id T : String} {rr : List V → Hp → VK → Prop} {x : Str} {p : Pos}
theorem de_cB (hc : CallR X (.builtin id) rr) (hd : C1 X.K rr ρ1 r r3) (hv : bootBuiltins x = some (.builtin id)) (hm : X.mg x = none) (hg : Gl X x) (h : DE X ρ e r ρ1) (hn : x ≠ "__name__" := by decide) (hdb : (x == ("__debug__" : Str)) = false := by decide)
    (he : starEach [e] X.env = (false, eval e X.env) :: starEach [] X.env := by rfl) (hpl : (backTo pos (starEach [] X.env)).any (·.1) = false := by rfl) : DE X ρ (.Call (.Name x p) [e] [] pos) r3 ρ1 := fun F Z B H σ Q k q =>
  ⟨_, pe_callB hc hg hm hv (pa_cons pe_s pa_nil he) hn hdb he hpl, h F Z B H σ _ k fun v B1 H1 k1 x1 w => hd F Z B1 H1 σ Q v k1 w fun v3 B2 H2 k2 x2 w2 => q v3 B2 H2 k2 (x1.trans x2) w2⟩
theorem de_cT (hc : CallR X (.type T) rr) (hd : C1 X.K rr ρ1 r r3) (hv : bootBuiltins x = some (.type T)) (hm : X.mg x = none) (hg : Gl X x) (h : DE X ρ e r ρ1) (hn : x ≠ "__name__" := by decide) (hdb : (x == ("__debug__" : Str)) = false := by decide)
    (he : starEach [e] X.env = (false, eval e X.env) :: starEach [] X.env := by rfl) (hpl : (backTo pos (starEach [] X.env)).any (·.1) = false := by rfl) : DE X ρ (.Call (.Name x p) [e] [] pos) r3 ρ1 := fun F Z B H σ Q k q =>
  ⟨_, pe_callTy hc hg hm hv (pa_cons pe_s pa_nil he) hn hdb he hpl, h F Z B H σ _ k fun v B1 H1 k1 x1 w => hd F Z B1 H1 σ Q v k1 w fun v3 B2 H2 k2 x2 w2 => q v3 B2 H2 k2 (x1.trans x2) w2⟩
theorem dl_cB {xs : List PyData} (hc : CallR X (.builtin id) rr) (hd : C1L X.K rr ρ1 r xs) (hv : bootBuiltins x = some (.builtin id)) (hm : X.mg x = none) (hg : Gl X x) (h : DE X ρ e r ρ1) (hn : x ≠ "__name__" := by decide) (hdb : (x == ("__debug__" : Str)) = false := by decide)
    (he : starEach [e] X.env = (false, eval e X.env) :: starEach [] X.env := by rfl) (hpl : (backTo pos (starEach [] X.env)).any (·.1) = false := by rfl) : DL X ρ (.Call (.Name x p) [e] [] pos) xs ρ1 := fun F Z B H σ Q k q =>
  ⟨_, pe_callB hc hg hm hv (pa_cons pe_s pa_nil he) hn hdb he hpl, h F Z B H σ _ k fun v B1 H1 k1 x1 w => hd F Z B1 H1 σ Q v k1 w fun p vs B2 H2 k2 x2 n hp w2 => q p vs B2 H2 k2 (x1.trans x2) n hp w2⟩
theorem dl_cT {xs : List PyData} (hc : CallR X (.type T) rr) (hd : C1L X.K rr ρ1 r xs) (hv : bootBuiltins x = some (.type T)) (hm : X.mg x = none) (hg : Gl X x) (h : DE X ρ e r ρ1) (hn : x ≠ "__name__" := by decide) (hdb : (x == ("__debug__" : Str)) = false := by decide)
    (he : starEach [e] X.env = (false, eval e X.env) :: starEach [] X.env := by rfl) (hpl : (backTo pos (starEach [] X.env)).any (·.1) = false := by rfl) : DL X ρ (.Call (.Name x p) [e] [] pos) xs ρ1 := fun F Z B H σ Q k q =>
  ⟨_, pe_callTy hc hg hm hv (pa_cons pe_s pa_nil he) hn hdb he hpl, h F Z B H σ _ k fun v B1 H1 k1 x1 w => hd F Z B1 H1 σ Q v k1 w fun p vs B2 H2 k2 x2 n hp w2 => q p vs B2 H2 k2 (x1.trans x2) n hp w2⟩
end
section
variable {p : Pos} {xs : List PyData}
theorem de_len (hq : RQ ρ1 r xs) (hm : X.mg "len" = none) (h : DE X ρ e r ρ1) (hg : Gl X "len" := by rfl) (he : starEach [e] X.env = (false, eval e X.env) :: starEach [] X.env := by rfl) (hpl : (backTo pos (starEach [] X.env)).any (·.1) = false := by rfl) :
    DE X ρ (.Call (.Name "len" p) [e] [] pos) (.d (.int xs.length)) ρ1 :=
  de_cB call_len_seq (fun F Z B H σ Q v k w q => by
    obtain ⟨p, vs, e, s, t⟩ := hq.at k w
    exact ⟨p, vs, congrArg (fun z => [z]) e, s, q _ B H k (Sub.refl B) (by rw [DpAll.length t]; exact .int _)⟩) PySem.boot_len hm hg h (by decide) (by decide) he hpl
theorem de_tupL (hq : RL ρ1 r xs) (hm : X.mg "tuple" = none) (h : DE X ρ e r ρ1) (hg : Gl X "tuple" := by rfl) (he : starEach [e] X.env = (false, eval e X.env) :: starEach [] X.env := by rfl) (hpl : (backTo pos (starEach [] X.env)).any (·.1) = false := by rfl) :
    DE X ρ (.Call (.Name "tuple" p) [e] [] pos) (.d (.tuple xs)) ρ1 :=
  de_cT call_tupleN (fun F Z B H σ Q v k w q => by
    obtain ⟨p, vs, e, s, t⟩ := hq.at k w
    exact ⟨p, vs, congrArg (fun z => [z]) e, s, k.newT t q⟩) PyProof.Rows.boot_tuple hm hg h (by decide) (by decide) he hpl
theorem de_tupT (hm : X.mg "tuple" = none) (h : DE X ρ e (.d (.tuple xs)) ρ1) (hg : Gl X "tuple" := by rfl) (he : starEach [e] X.env = (false, eval e X.env) :: starEach [] X.env := by rfl) (hpl : (backTo pos (starEach [] X.env)).any (·.1) = false := by rfl) :
    DE X ρ (.Call (.Name "tuple" p) [e] [] pos) (.d (.tuple xs)) ρ1 :=
  de_cT call_tuple_of (fun F Z B H σ Q v k w q => by
    obtain ⟨p, vs, e, s, s', t⟩ := tup_at k w
    exact ⟨p, vs, congrArg (fun z => [z]) e, .inr ⟨s, q _ B H k (Sub.refl B) (.tup s'.1 s'.2 t)⟩⟩) PyProof.Rows.boot_tuple hm hg h (by decide) (by decide) he hpl
theorem dl_list (hq : RQ ρ1 r xs) (hm : X.mg "list" = none) (h : DE X ρ e r ρ1) (hg : Gl X "list" := by rfl) (he : starEach [e] X.env = (false, eval e X.env) :: starEach [] X.env := by rfl) (hpl : (backTo pos (starEach [] X.env)).any (·.1) = false := by rfl) :
    DL X ρ (.Call (.Name "list" p) [e] [] pos) xs ρ1 :=
  dl_cT call_list_of (fun F Z B H σ Q v k w q => by
    obtain ⟨p, vs, e, s, t⟩ := hq.at k w
    exact ⟨p, vs, congrArg (fun z => [z]) e, s, fun l hl => q l vs B _ (k.loose hl _) (Sub.refl B) (k.laid hl _) upd_same t⟩) PyProof.Rows.boot_list hm hg h (by decide) (by decide) he hpl
theorem de_abs {i : Int} (hm : X.mg "abs" = none) (h : DE X ρ e (.d (.int i)) ρ1) (hg : Gl X "abs" := by rfl) (he : starEach [e] X.env = (false, eval e X.env) :: starEach [] X.env := by rfl) (hpl : (backTo pos (starEach [] X.env)).any (·.1) = false := by rfl) :
    DE X ρ (.Call (.Name "abs" p) [e] [] pos) (.d (.int (if i < 0 then -i else i))) ρ1 :=
  de_cB call_abs (fun F Z B H σ Q v k w q => by
    cases w
    exact ⟨i, rfl, q _ B H k (Sub.refl B) (.int _)⟩) PyProof.Rows.boot_abs hm hg h (by decide) (by decide) he hpl
theorem de_intI {i : Int} (hm : X.mg "int" = none) (h : DE X ρ e (.d (.int i)) ρ1) (hg : Gl X "int" := by rfl) (he : starEach [e] X.env = (false, eval e X.env) :: starEach [] X.env := by rfl) (hpl : (backTo pos (starEach [] X.env)).any (·.1) = false := by rfl) :
    DE X ρ (.Call (.Name "int" p) [e] [] pos) (.d (.int i)) ρ1 :=
  de_cT call_int1 (fun F Z B H σ Q v k w q => by
    cases w
    exact .inl ⟨i, rfl, q _ B H k (Sub.refl B) (.int _)⟩) PyProof.Rows.boot_int hm hg h (by decide) (by decide) he hpl
theorem de_intB {i : Bool} (hm : X.mg "int" = none) (h : DE X ρ e (.d (.bool i)) ρ1) (hg : Gl X "int" := by rfl) (he : starEach [e] X.env = (false, eval e X.env) :: starEach [] X.env := by rfl) (hpl : (backTo pos (starEach [] X.env)).any (·.1) = false := by rfl) :
    DE X ρ (.Call (.Name "int" p) [e] [] pos) (.d (.int (if i then 1 else 0))) ρ1 :=
  de_cT call_int1 (fun F Z B H σ Q v k w q => by
    cases w
    exact .inr ⟨i, rfl, q _ B H k (Sub.refl B) (.int _)⟩) PyProof.Rows.boot_int hm hg h (by decide) (by decide) he hpl
/-- max(a, b) -/
theorem de_max2 {i j : Int} (hc : X.calm = true) (hm : X.mg "max" = none) (h : DA X ρ [a, b] [.int i, .int j] ρ1) (hg : Gl X "max" := by rfl) (he : starEach [a, b] X.env = (false, eval a X.env) :: starEach [b] X.env := by rfl)
    (hpl : (backTo pos (starEach [b] X.env)).any (·.1) = false := by rfl) : DE X ρ (.Call (.Name "max" p) [a, b] [] pos) (.d (.int (if j > i then j else i))) ρ1 := fun F Z B H σ Q k q =>
  ⟨_, pe_callB (call_max2 hc) hg hm PyProof.Rows.boot_max pa_s (by decide) (by decide) he hpl, h F Z B H σ _ k fun vs B1 H1 k1 x1 w => by
    cases w with
    | cons w1 w =>
      cases w with
      | cons w2 w =>
        cases w; cases w1; cases w2
        exact ⟨i, j, rfl, q _ B1 H1 k1 x1 (.int _)⟩⟩
end

/-! ### places -/
section
variable {xs : List PyData} {i : Int} {x : PyData}
theorem atI_dp {K : PySem.W.Frag} {B : Hp} {vs : List V} (t : DpAll K B vs xs) (h : atI xs i = some x) : ∃ v, atI vs i = some v ∧ Dp K B v x := by
  unfold atI at h ⊢
  rw [DpAll.length t]
  cases e : ixN xs.length i with
  | none => rw [e] at h; cases h
  | some j =>
    rw [e] at h
    exact DpAll.get' t (by simpa using h)
theorem de_ixL (hq : RL ρ2 r xs) (hx : atI xs i = some x) (ha : DE X ρ a r ρ1) (hb : DE X ρ1 b (.d (.int i)) ρ2) (hs : PlainIx b := by intro _ _; rfl) : DE X ρ (.Subscript a b pos) (.d x) ρ2 := fun F Z B H σ Q k q =>
  ⟨_, pe_ix ix_list pe_s pe_s hs, DE.two ha hb k fun v1 v2 B2 H2 k2 x w1 w2 => by
    obtain ⟨p, vs, e, s, t⟩ := hq.at k2 w1
    obtain ⟨v, h1, h2⟩ := atI_dp t hx
    cases w2
    exact ⟨p, vs, i, v, e, rfl, s, h1, q v B2 H2 k2 x h2⟩⟩
theorem de_ixT (hx : atI xs i = some x) (ha : DE X ρ a (.d (.tuple xs)) ρ1) (hb : DE X ρ1 b (.d (.int i)) ρ2) (hs : PlainIx b := by intro _ _; rfl) : DE X ρ (.Subscript a b pos) (.d x) ρ2 := fun F Z B H σ Q k q =>
  ⟨_, pe_ix ix_tup pe_s pe_s hs, DE.two ha hb k fun v1 v2 B2 H2 k2 x w1 w2 => by
    obtain ⟨p, vs, e, s, _, t⟩ := tup_at k2 w1
    obtain ⟨v, h1, h2⟩ := atI_dp t hx
    cases w2
    exact ⟨p, vs, i, v, e, rfl, s, h1, q v B2 H2 k2 x h2⟩⟩
end

/-! ### slices -/
def cutD {α : Type} (xs : List α) (lo hi : Option Int) : List α := (xs.drop (HT.sIx xs.length 0 lo)).take (HT.sIx xs.length xs.length hi - HT.sIx xs.length 0 lo)
theorem cutD_to {α : Type} (xs : List α) (k : Nat) : cutD xs none (some (k : Int)) = xs.take k := by
  unfold cutD
  rw [HT.sIx_none, HT.sIx_nat, List.drop_zero, Nat.sub_zero]
  rw [List.take_eq_take_iff]; omega
theorem cutD_from {α : Type} (xs : List α) (k : Nat) : cutD xs (some (k : Int)) none = xs.drop k := by
  unfold cutD
  rw [HT.sIx_none, HT.sIx_nat]
  by_cases h : k ≤ xs.length
  · rw [Nat.min_eq_left h, List.take_of_length_le (by rw [List.length_drop]; omega)]
  · rw [Nat.min_eq_right (by omega), List.drop_of_length_le (Nat.le_refl _), List.drop_of_length_le (by omega)]; simp
theorem cutV_dp {K : PySem.W.Frag} {B : Hp} {vs : List V} {xs : List PyData} {lo hi : Option Int} (t : DpAll K B vs xs) : DpAll K B (cutV vs lo hi) (cutD xs lo hi) := by
  unfold cutV cutD
  rw [DpAll.length t]
  exact G.DpAll.take _ (G.DpAll.drop _ t)
def DO (X : Cx) (ρ : Env') (e : Option Expr) (o : Option Int) (ρ' : Env') : Prop := ∀ F Z B H σ Q, Ok X.K F Z B H σ ρ → (∀ B' H', Ok X.K F Z B' H' σ ρ' → Sub B B' → Q o H') → ∃ t, PO X e t ∧ t σ H Q
theorem do_none : DO X ρ none none ρ := fun F Z B H σ Q k q => ⟨_, po_none, q B H k (Sub.refl B)⟩
theorem do_some {i : Int} (h : DE X ρ e (.d (.int i)) ρ1) : DO X ρ (some e) (some i) ρ1 := fun F Z B H σ Q k q => ⟨_, po_some pe_s, h F Z B H σ _ k fun v B1 H1 k1 x1 w => by
  cases w
  exact ⟨i, rfl, q B1 H1 k1 x1⟩⟩
def sO (X : Cx) (e : Option Expr) : TO := fun σ H Q => ∃ t, PO X e t ∧ t σ H Q
theorem po_s {e : Option Expr} : PO X e (sO X e) := ⟨fun pins s σ H Q I ⟨_, h, q⟩ => h.run pins s σ H Q I q⟩
section
variable {xs : List PyData} {lo hi : Option Expr} {i j : Option Int} {p2 : Pos}
theorem de_slT (ha : DE X ρ a (.d (.tuple xs)) ρ1) (h1 : DO X ρ1 lo i ρ2) (h2 : DO X ρ2 hi j ρ3) : DE X ρ (.Subscript a (.Slice lo hi none p2) pos) (.d (.tuple (cutD xs i j))) ρ3 := fun F Z B H σ Q k q =>
  ⟨_, pe_slice sl_tupN pe_s po_s po_s, ha F Z B H σ _ k fun v B1 H1 k1 x1 w => h1 F Z B1 H1 σ _ k1 fun B2 H2 k2 x2 => h2 F Z B2 H2 σ _ k2 fun B3 H3 k3 x3 => by
    obtain ⟨p, vs, e, s, s', t⟩ := tup_at k3 (VR.mono (x2.trans x3) w)
    refine ⟨p, vs, e, s, fun hw => ?_, fun hw => ?_⟩
    · have e2 : cutD xs i j = xs := by
        unfold cutD
        rw [← DpAll.length t, hw.1, hw.2, DpAll.length t]
        simp
      rw [e2] at q
      exact q _ B3 H3 k3 ((x1.trans x2).trans x3) (.tup s'.1 s'.2 t)
    · exact k3.newT (cutV_dp t) fun v B4 H4 k4 x4 w4 => q v B4 H4 k4 (((x1.trans x2).trans x3).trans x4) w4⟩
theorem dl_sl (hq : RL ρ3 r xs) (ha : DE X ρ a r ρ1) (h1 : DO X ρ1 lo i ρ2) (h2 : DO X ρ2 hi j ρ3) : DL X ρ (.Subscript a (.Slice lo hi none p2) pos) (cutD xs i j) ρ3 := fun F Z B H σ Q k q =>
  ⟨_, pe_slice sl_list pe_s po_s po_s, ha F Z B H σ _ k fun v B1 H1 k1 x1 w => h1 F Z B1 H1 σ _ k1 fun B2 H2 k2 x2 => h2 F Z B2 H2 σ _ k2 fun B3 H3 k3 x3 => by
    obtain ⟨p, vs, e, s, t⟩ := hq.at k3 (VR.mono (x2.trans x3) w)
    exact ⟨p, vs, e, s, fun l hl => q l _ B3 _ (k3.loose hl _) ((x1.trans x2).trans x3) (k3.laid hl _) upd_same (cutV_dp t)⟩⟩
theorem dl_rev {kk : Nat} {p1 p3 p4 : Pos} (hq : RL ρ1 r xs) (ha : DE X ρ a r ρ1) : DL X ρ (.Subscript a (.Slice none none (some (.UnaryOp .USub (.Constant (.int 1) kk p1) p3)) p4) pos) xs.reverse ρ1 := fun F Z B H σ Q k q =>
  ⟨_, pe_revL pe_s, ha F Z B H σ _ k fun v B1 H1 k1 x1 w => by
    obtain ⟨p, vs, e, s, t⟩ := hq.at k1 w
    exact ⟨p, vs, e, s, fun l hl => q l _ B1 _ (k1.loose hl _) x1 (k1.laid hl _) upd_same (DpAll.reverse t)⟩⟩
end

/-! ### glued -/
section
variable {xs ys : List PyData}
theorem de_catT (hz : xs.length + ys.length ≤ sizeLine) (ha : DE X ρ a (.d (.tuple xs)) ρ1) (hb : DE X ρ1 b (.d (.tuple ys)) ρ2) : DE X ρ (.BinOp a .Add b pos) (.d (.tuple (xs ++ ys))) ρ2 := fun F Z B H σ Q k q =>
  ⟨_, pe_op op_catN pe_s pe_s, DE.two ha hb k fun v1 v2 B2 H2 k2 x w1 w2 => by
    obtain ⟨p1, vs, e1, s1, s1', t1⟩ := tup_at k2 w1
    obtain ⟨p2, us, e2, s2, s2', t2⟩ := tup_at k2 w2
    have l1 := DpAll.length t1
    have l2 := DpAll.length t2
    refine ⟨p1, p2, vs, us, e1, e2, s1, s2, by rw [l1, l2]; exact hz, fun h => ?_, fun h h' => ?_, fun h h' => ?_⟩
    · have e : xs = [] := List.eq_nil_of_length_eq_zero (by rw [← l1, h]; rfl)
      rw [e] at q
      exact q _ B2 H2 k2 x (.tup s2'.1 s2'.2 t2)
    · have e : ys = [] := List.eq_nil_of_length_eq_zero (by rw [← l2, h']; rfl)
      rw [e, List.append_nil] at q
      exact q _ B2 H2 k2 x (.tup s1'.1 s1'.2 t1)
    · exact k2.newT (G.DpAll.append t1 t2) fun v B3 H3 k3 x3 w3 => q v B3 H3 k3 (x.trans x3) w3⟩
/-- a list of our own, and a new one -/
theorem dl_cat {i : Nat} (hz : xs.length + ys.length ≤ sizeLine) (ha : DE X ρ a (.o i) ρ1) (hb : DL X ρ1 b ys ρ2) (hs : ρ2[i]? = some (.o (.lst xs)) := by rfl) : DL X ρ (.BinOp a .Add b pos) (xs ++ ys) ρ2 := fun F Z B H σ Q k q =>
  ⟨_, pe_op op_cat pe_s pe_s, ha F Z B H σ _ k fun v1 B1 H1 k1 x1 w1 => hb F Z B1 H1 σ _ k1 fun p us B2 H2 k2 x2 n hp t2 => by
    obtain ⟨v', as, h1, h2, _⟩ := k2.ob (gS_some hs)
    have w' : gV σ i = some v1 := w1
    rw [w'] at h1
    cases h1
    cases h2 with
    | lst h t1 =>
      have l1 := DpAll.length t1
      have l2 := DpAll.length t2
      exact ⟨_, p, _, us, rfl, rfl, h, hp, by rw [l1, l2]; exact hz, fun l hl => q l _ B2 _ (k2.loose hl _) (x1.trans x2) (k2.laid hl _) upd_same (G.DpAll.append t1 t2)⟩⟩
end
end
end G

set_option Elab.async false
set_option linter.all false
set_option maxRecDepth 100000
set_option maxHeartbeats 4000000
/- statements, loops, comprehensions, on data -/
namespace G
open PySem L2 PySem.Spec PyProof.Rows

section
variable {X : Cx} {ρ ρ' ρ1 ρ2 ρ3 : Env'} {a b c e : Expr} {es : List Expr} {r r1 r2 r3 : R} {pos : Pos} {st : Stmt} {rest sts : List Stmt} {o : O}

/-! ### blocks -/
theorem db_nil : DB X ρ [] (.nx ρ) := fun F Z B H σ D k q => ⟨_, pss_nil, q B H σ k (Sub.refl B)⟩
theorem db_cons (h : DS X ρ st (.nx ρ1)) (t : DB X ρ1 rest o) : DB X ρ (st :: rest) o := fun F Z B H σ D k q =>
  ⟨_, pss_cons ps_s pb_s, h F Z B H σ { D with nx := sB X rest D } k fun B1 H1 σ1 k1 x1 => t F Z B1 H1 σ1 D k1 (q.sub x1)⟩
theorem db_one (h : DS X ρ st o) : DB X ρ [st] o := fun F Z B H σ D k q => ⟨_, pss_one ps_s, h F Z B H σ D k q⟩
/-- a statement that does not go on -/
theorem db_rt {d : PyData} (h : DS X ρ st (.rt d ρ1)) : DB X ρ (st :: rest) (.rt d ρ1) := fun F Z B H σ D k q => ⟨_, pss_cons ps_s pss_never, h F Z B H σ { D with nx := tNever D } k q⟩
theorem db_bk (h : DS X ρ st (.bk ρ1)) : DB X ρ (st :: rest) (.bk ρ1) := fun F Z B H σ D k q => ⟨_, pss_cons ps_s pss_never, h F Z B H σ { D with nx := tNever D } k q⟩
theorem db_ct (h : DS X ρ st (.ct ρ1)) : DB X ρ (st :: rest) (.ct ρ1) := fun F Z B H σ D k q => ⟨_, pss_cons ps_s pss_never, h F Z B H σ { D with nx := tNever D } k q⟩
/-- forgetting at the end -/
theorem db_weak (h : DB X ρ sts (.nx ρ1)) (w : Wk ρ1 ρ2) : DB X ρ sts (.nx ρ2) := fun F Z B H σ D k q => h F Z B H σ D k fun B' H' σ' k' x => q B' H' σ' (k'.weak w) x

/-! ### simple statements -/
section
variable {i : Nat} {x : Str} {y : PyData} {pos' : Pos}
theorem ds_set (hN : X.N.Nodup) (he : DE X ρ e (.d y) ρ1) (hi : X.N[i]? = some x := by rfl) (hx : Loc X.env.scope x := by first | exact Or.inl rfl | exact Or.inr rfl) (hs : swapsWith e (some (.Name x pos')) pos.line X.env = pure false := by rfl)
    (hf : X.fn x = true ∨ X.env.scope.names.lookup x = some .local := by first | exact .inl rfl | exact .inr rfl) : DS X ρ (.Assign [.Name x pos'] e pos) (.nx (ρ1.set i (.d y))) := fun F Z B H σ D k q =>
  ⟨_, ps_set hN hi hx pe_s hs hf, he F Z B H σ _ k fun v B1 H1 k1 x1 w => q B1 H1 _ (k1.setD w) x1⟩
theorem ds_setL {xs : List PyData} {s0 : Sl} (hN : X.N.Nodup) (he : DL X ρ e xs ρ1) (hr : ρ1[i]? = some s0 := by rfl) (hi : X.N[i]? = some x := by rfl) (hx : Loc X.env.scope x := by first | exact Or.inl rfl | exact Or.inr rfl) (hs : swapsWith e (some (.Name x pos')) pos.line X.env = pure false := by rfl)
    (hf : X.fn x = true ∨ X.env.scope.names.lookup x = some .local := by first | exact .inl rfl | exact .inr rfl) : DS X ρ (.Assign [.Name x pos'] e pos) (.nx (ρ1.set i (.o (.lst xs)))) := fun F Z B H σ D k q =>
  ⟨_, ps_set hN hi hx pe_s hs hf, he F Z B H σ _ k fun p vs B1 H1 k1 x1 n hp w => q B1 H1 _ (k1.take n (List.getElem?_eq_some_iff.mp hr).1 (.lst hp w)) x1⟩
end
theorem ds_drop (he : DE X ρ e r ρ1) (hs : swapsWith e none pos.line X.env = pure false := by rfl) : DS X ρ (.Expr e pos) (.nx ρ1) := fun F Z B H σ D k q =>
  ⟨_, ps_expr pe_s hs, he F Z B H σ _ k fun v B1 H1 k1 x1 w => q B1 H1 σ k1 x1⟩
theorem ds_ret {y : PyData} (he : DE X ρ e (.d y) ρ1) : DS X ρ (.Return (some e) pos) (.rt y ρ1) := fun F Z B H σ D k q =>
  ⟨_, ps_ret pe_s, he F Z B H σ _ k fun v B1 H1 k1 x1 w => q v B1 H1 σ k1 x1 w⟩
theorem ds_retN : DS X ρ (.Return none pos) (.rt .none ρ) := fun F Z B H σ D k q => ⟨_, ps_retN, q .non B H σ k (Sub.refl B) .non⟩
theorem ds_pass : DS X ρ (.Pass pos) (.nx ρ) := fun F Z B H σ D k q => ⟨_, ps_pass, q B H σ k (Sub.refl B)⟩
theorem ds_break : DS X ρ (.Break pos) (.bk ρ) := fun F Z B H σ D k q => ⟨_, ps_break, q B H σ k (Sub.refl B)⟩
theorem ds_cont : DS X ρ (.Continue pos) (.ct ρ) := fun F Z B H σ D k q => ⟨_, ps_continue, q B H σ k (Sub.refl B)⟩
theorem ds_if {x : Bool} {as bs : List Stmt} (h : DT X ρ c x ρ1) (h1 : x = true → DB X ρ1 as o) (h2 : x = false → DB X ρ1 bs o) : DS X ρ (.If c as bs pos) o := fun F Z B H σ D k q =>
  ⟨_, ps_if pt_s pb_s pb_s, h F Z B H σ _ k fun B1 H1 k1 x1 => by
    cases x with
    | true =>
      rw [if_pos rfl]
      exact h1 rfl F Z B1 H1 σ D k1 (q.sub x1)
    | false =>
      rw [if_neg (by decide)]
      exact h2 rfl F Z B1 H1 σ D k1 (q.sub x1)⟩
/-- an if whose first branch ends the block -/
theorem db_if {x : Bool} {as : List Stmt} (h : DT X ρ c x ρ1) (h1 : x = true → DB X ρ1 as o) (h2 : x = false → DB X ρ1 rest o) (hn : x = true → ∀ ρ, o ≠ .nx ρ) : DB X ρ (.If c as [] pos :: rest) o := by
  cases x with
  | true =>
    have q : DS X ρ (.If c as [] pos) o := ds_if h h1 fun z => nomatch z
    cases o with
    | nx ρ' => exact absurd rfl (hn rfl ρ')
    | rt d ρ' => exact db_rt q
    | bk ρ' => exact db_bk q
    | ct ρ' => exact db_ct q
  | false => exact db_cons (ds_if h (fun z => nomatch z) fun _ => db_nil) (h2 rfl)

/-! ### targets -/
/-- storing x at the target; js: the slots that it writes -/
def DG (X : Cx) (ρ : Env') (tg : Expr) (x : PyData) (js : List Nat) (ρ' : Env') : Prop := ∀ F Z B H σ v Q, Ok X.K F Z B H σ ρ → Dp X.K B v x →
  (∀ B' H' σ', Ok X.K F Z B' H' σ' ρ' → Sub B B' → (∀ vs : List Nat, (∀ j ∈ js, j ∈ vs) → wipe σ' vs = wipe σ vs) → Q σ' H') → sG X tg v σ H Q
def DGs (X : Cx) (ρ : Env') (tgs : List Expr) (xs : List PyData) (js : List Nat) (ρ' : Env') : Prop := ∀ F Z B H σ vs Q, Ok X.K F Z B H σ ρ → DpAll X.K B vs xs →
  (∀ B' H' σ', Ok X.K F Z B' H' σ' ρ' → Sub B B' → (∀ vs : List Nat, (∀ j ∈ js, j ∈ vs) → wipe σ' vs = wipe σ vs) → Q σ' H') → sGs X tgs vs σ H Q
theorem wipe_in {σ : L2.St} {i : Nat} : ∀ {vs : List Nat}, i ∈ vs → i < σ.length → (wipe σ vs)[i]? = some none
  | v :: vs, h, hl => by
    unfold wipe
    by_cases e : v = i
    · subst e
      rw [List.getElem?_set_self (by rw [wipe_length]; exact hl)]
    · rw [List.getElem?_set_ne e]
      exact wipe_in ((List.mem_cons.mp h).resolve_left fun z => e z.symm) hl
theorem wipe_set {σ : L2.St} {i : Nat} {a : Option V} {vs : List Nat} (h : i ∈ vs) : wipe (σ.set i a) vs = wipe σ vs := by
  apply List.ext_getElem?
  intro j
  by_cases hj : j ∈ vs
  · by_cases hl : j < σ.length
    · rw [wipe_in hj (by simpa using hl), wipe_in hj hl]
    · rw [List.getElem?_eq_none (by rw [wipe_length]; simp; omega), List.getElem?_eq_none (by rw [wipe_length]; omega)]
  · rw [wipe_out hj, wipe_out hj, List.getElem?_set_ne fun e => hj (by rw [← e]; exact h)]
theorem dg_name {i : Nat} {x : Str} {y : PyData} (hN : X.N.Nodup) (hi : X.N[i]? = some x := by rfl) (hx : Loc X.env.scope x := by first | exact Or.inl rfl | exact Or.inr rfl)
    (hf : X.fn x = true ∨ X.env.scope.names.lookup x = some .local := by first | exact .inl rfl | exact .inr rfl) : DG X ρ (.Name x pos) y [i] (ρ.set i (.d y)) := fun F Z B H σ v Q k w q =>
  ⟨_, pg_name hN hi hx hf, q B H _ (k.setD w) (Sub.refl B) fun vs hv => wipe_set (hv i List.mem_cons_self)⟩
theorem dgs_nil : DGs X ρ [] [] [] ρ := fun F Z B H σ vs Q k w q => by
  cases w
  exact ⟨_, pgs_nil, rfl, q B H σ k (Sub.refl B) fun _ _ => rfl⟩
theorem dgs_cons {x : PyData} {xs : List PyData} {js ks : List Nat} (h : DG X ρ e x js ρ1) (t : DGs X ρ1 es xs ks ρ2) (hs : (assignEach (e :: es) X.env).map (·.2) = assign e X.env :: (assignEach es X.env).map (·.2) := by rfl) : DGs X ρ (e :: es) (x :: xs) (js ++ ks) ρ2 := fun F Z B H σ vs Q k w q => by
  cases w with
  | cons w1 w2 =>
    exact ⟨_, pgs_cons pg_s pgs_s hs, _, _, rfl, h F Z B H σ _ _ k w1 fun B1 H1 σ1 k1 x1 z1 => t F Z B1 H1 σ1 _ _ k1 (dpAll_mono x1 w2) fun B2 H2 σ2 k2 x2 z2 => q B2 H2 σ2 k2 (x1.trans x2) fun us hu =>
      (z2 us fun j hj => hu j (List.mem_append_right _ hj)).trans (z1 us fun j hj => hu j (List.mem_append_left _ hj))⟩
theorem dg_tup {n : Nat} {kk : Nat} {xs : List PyData} {js : List Nat} (hc : X.calm = true) (h : DGs X ρ es xs js ρ1) (hl : xs.length = n := by rfl) (hn : (assignEach es X.env).length = n := by rfl) (hst : (assignEach es X.env).findIdx? (·.1) = none := by rfl) :
    DG X ρ (.Tuple es kk pos) (.tuple xs) js ρ1 := fun F Z B H σ v Q k w q => by
  obtain ⟨p, vs, e, s, _, t⟩ := tup_at k (show VR X.K B σ v (.d (.tuple xs)) from w)
  exact ⟨_, pg_tup hc pgs_s hn hst, p, vs, e, s, by rw [DpAll.length t]; exact hl, h F Z B H σ vs Q k t q⟩

/-! ### what is walked -/
def DI (X : Cx) (ρ : Env') (tg iter : Expr) (xs : List PyData) (ρ' : Env') : Prop := ∀ F Z B H σ Q, Ok X.K F Z B H σ ρ →
  (∀ J n G Y B' H', Ok X.K F Z B' H' σ ρ' → Sub B B' → n = xs.length → Walk J n G Y → (∀ B2 H2, Sub B' B2 → Sub B2 H2 → G H2) →
    (∀ F2 Z2 B2 H2 σ2 ρ2 i v H3, Ok X.K F2 Z2 B2 H2 σ2 ρ2 → Sub B' B2 → i < n → Y i H2 v H3 → ∃ B3 x, xs[i]? = some x ∧ Ok X.K F2 Z2 B3 H3 σ2 ρ2 ∧ Sub B2 B3 ∧ Dp X.K B3 v x) → Q J H') →
  ∃ t, PI X tg iter t ∧ t σ H Q
def sI (X : Cx) (tg iter : Expr) : TI := fun σ H Q => ∃ t, PI X tg iter t ∧ t σ H Q
theorem pi_s {tg iter : Expr} : PI X tg iter (sI X tg iter) := ⟨fun pins s σ H R I ⟨_, h, q⟩ => h.run pins s σ H R I q⟩
section
variable {tg iter : Expr} {xs : List PyData}
theorem di_list (h : DE X ρ iter (.d (.list xs)) ρ1) : DI X ρ tg iter xs ρ1 := fun F Z B H σ Q k q =>
  ⟨_, pi_list pe_s, h F Z B H σ _ k fun v B1 H1 k1 x1 w => by
    cases w with
    | @lst a vs _ s t =>
      refine ⟨a, rfl, ⟨vs, s.imp k1.exB.rd id⟩, q _ _ _ _ B1 H1 k1 x1 (DpAll.length t) walk_list (fun B2 H2 y1 y2 => s.imp (y1.trans y2).rd id) ?_⟩
      rintro F2 Z2 B2 H2 σ2 ρ2 i v H3 k2 y2 hi ⟨rfl, hv⟩
      obtain ⟨x, h1, h2⟩ := DpAll.get t hv
      exact ⟨B2, x, h1, k2, Sub.refl B2, dp_mono y2 h2⟩⟩
theorem di_tup (h : DE X ρ iter (.d (.tuple xs)) ρ1) : DI X ρ tg iter xs ρ1 := fun F Z B H σ Q k q =>
  ⟨_, pi_tup pe_s, h F Z B H σ _ k fun v B1 H1 k1 x1 w => by
    cases w with
    | @tup a vs _ s _ t =>
      refine ⟨a, rfl, ⟨vs, s.imp k1.exB.rd id⟩, q _ _ _ _ B1 H1 k1 x1 (DpAll.length t) walk_tup (fun B2 H2 y1 y2 => s.imp (y1.trans y2).rd id) ?_⟩
      rintro F2 Z2 B2 H2 σ2 ρ2 i v H3 k2 y2 hi ⟨rfl, hv⟩
      obtain ⟨x, h1, h2⟩ := DpAll.get t hv
      exact ⟨B2, x, h1, k2, Sub.refl B2, dp_mono y2 h2⟩⟩
def rangeD (lo : Int) (n : Nat) : List PyData := (List.range n).map fun (i : Nat) => PyData.int (lo + (i : Int))
theorem rangeD_at {lo : Int} {n i : Nat} (h : i < n) : (rangeD lo n)[i]? = some (.int (lo + (i : Int))) := by
  unfold rangeD
  rw [List.getElem?_map, List.getElem?_range h]; rfl
theorem rangeD_len {lo : Int} {n : Nat} : (rangeD lo n).length = n := by unfold rangeD; simp
theorem di_range {n : Int} {p : Pos} (hm : X.mg "range" = none) (hn : n < 2 ^ 62 ∧ -(2 ^ 62) ≤ n) (h : DA X ρ [e] [.int n] ρ1) (hg : Gl X "range" := by rfl) (hs : starEach [e] X.env = [(false, eval e X.env)] := by rfl) :
    DI X ρ tg (.Call (.Name "range" p) [e] [] pos) (rangeD 0 n.toNat) ρ1 := fun F Z B H σ Q k q =>
  ⟨_, pi_range1 hg hm pa_s hs, h F Z B H σ _ k fun vs B1 H1 k1 x1 w => by
    cases w with
    | cons w w' =>
      cases w; cases w'
      refine ⟨n, rfl, hn.2, hn.1, q _ _ _ _ B1 H1 k1 x1 rangeD_len.symm walk_range (fun _ _ _ _ => trivial) ?_⟩
      rintro F2 Z2 B2 H2 σ2 ρ2 i v H3 k2 y2 hi ⟨rfl, rfl⟩
      exact ⟨B2, _, rangeD_at hi, k2, Sub.refl B2, .int _⟩⟩
theorem di_range2 {m n : Int} {p : Pos} (hm : X.mg "range" = none) (hn : -(2 ^ 62) ≤ m ∧ m < 2 ^ 62 ∧ -(2 ^ 62) ≤ n ∧ n < 2 ^ 62) (h : DA X ρ [a, b] [.int m, .int n] ρ1) (hg : Gl X "range" := by rfl) (hs : starEach [a, b] X.env = [(false, eval a X.env), (false, eval b X.env)] := by rfl)
    (hs2 : starEach [b] X.env = [(false, eval b X.env)] := by rfl) : DI X ρ tg (.Call (.Name "range" p) [a, b] [] pos) (rangeD m (n - m).toNat) ρ1 := fun F Z B H σ Q k q =>
  ⟨_, pi_range2 hg hm pa_s hs hs2, h F Z B H σ _ k fun vs B1 H1 k1 x1 w => by
    cases w with
    | cons w w' =>
      cases w
      cases w' with
      | cons w w' =>
        cases w; cases w'
        refine ⟨m, n, rfl, hn, q _ _ _ _ B1 H1 k1 x1 rangeD_len.symm walk_range (fun _ _ _ _ => trivial) ?_⟩
        rintro F2 Z2 B2 H2 σ2 ρ2 i v H3 k2 y2 hi ⟨rfl, rfl⟩
        exact ⟨B2, _, rangeD_at hi, k2, Sub.refl B2, .int _⟩⟩
end

/-! ### for -/
section
variable {tg iter : Expr} {xs : List PyData} {body : List Stmt}
/-- the first m turns go on; what is then, q says: all are taken, or one more ends the loop otherwise -/
theorem for_goes (hp : PassesOwn (model X.prog X.w) X.A X.env X.xe) (hc : X.calm = true) (hi : DI X ρ tg iter xs ρ1) (ρs : Nat → Env') (h0 : Wk ρ1 (ρs 0))
    (turn : ∀ i x, xs[i]? = some x → ∃ ρt js ρe, DG X (ρs i) tg x js ρt ∧ (DB X ρt body (.nx ρe) ∨ DB X ρt body (.ct ρe)) ∧ Wk ρe (ρs (i + 1)))
    (hs : ∀ x, foldedSetIterable iter X.env x = pure x := by intro _; rfl) : DS X ρ (.For tg iter body [] pos) (.nx (ρs xs.length)) := fun F Z B H σ D k q =>
  ⟨_, ps_for hp hc pi_s pg_s pb_s hs, hi F Z B H σ _ k fun J n G Y B1 H1 k1 x1 hn W hG hY => by
    subst hn
    refine for_it W (fun i σ' H' => ∃ B', Ok X.K F Z B' H' σ' (ρs i) ∧ Sub B1 B') ⟨B1, k1.weak h0, Sub.refl B1⟩ (fun i σ' H' _ ⟨B', k', y⟩ => hG B' H' y k'.exB) ?_ fun σ' H' ⟨B', k', y⟩ => q B' H' σ' k' (x1.trans y)
    rintro i v σ' H' H2 hi' ⟨B', k', y⟩ hv
    obtain ⟨B2, x, hx, k2, y2, w⟩ := hY F Z B' H' σ' (ρs i) i v H2 k' y hi' hv
    obtain ⟨ρt, js, ρe, t1, t2, t3⟩ := turn i x hx
    refine t1 F Z B2 H2 σ' v _ k2 w fun B3 H3 σ3 k3 y3 _ => ?_
    have fin : ∀ B' H' σ', Ok X.K F Z B' H' σ' ρe → Sub B3 B' → ∃ B'', Ok X.K F Z B'' H' σ' (ρs (i + 1)) ∧ Sub B1 B'' := fun B4 H4 σ4 k4 y4 => ⟨B4, k4.weak t3, ((y.trans y2).trans y3).trans y4⟩
    rcases t2 with t2 | t2
    · exact t2 F Z B3 H3 σ3 _ k3 fin
    · exact t2 F Z B3 H3 σ3 _ k3 fin⟩
/-- m turns go on, the next one leaves -/
theorem for_leaves (hp : PassesOwn (model X.prog X.w) X.A X.env X.xe) (hc : X.calm = true) (hi : DI X ρ tg iter xs ρ1) (m : Nat) (hm : m < xs.length) (ρs : Nat → Env') (h0 : Wk ρ1 (ρs 0))
    (turn : ∀ i x, i < m → xs[i]? = some x → ∃ ρt js ρe, DG X (ρs i) tg x js ρt ∧ (DB X ρt body (.nx ρe) ∨ DB X ρt body (.ct ρe)) ∧ Wk ρe (ρs (i + 1)))
    (last : ∀ x, xs[m]? = some x → ∃ ρt js, DG X (ρs m) tg x js ρt ∧ ((∃ d ρe, DB X ρt body (.rt d ρe) ∧ o = .rt d ρe) ∨ ∃ ρe, DB X ρt body (.bk ρe) ∧ o = .nx ρe))
    (hs : ∀ x, foldedSetIterable iter X.env x = pure x := by intro _; rfl) : DS X ρ (.For tg iter body [] pos) o := fun F Z B H σ D k q =>
  ⟨_, ps_for hp hc pi_s pg_s pb_s hs, hi F Z B H σ _ k fun J n G Y B1 H1 k1 x1 hn W hG hY => by
    subst hn
    refine for_it W (fun i σ' H' => i ≤ m ∧ ∃ B', Ok X.K F Z B' H' σ' (ρs i) ∧ Sub B1 B') ⟨Nat.zero_le _, B1, k1.weak h0, Sub.refl B1⟩ (fun i σ' H' _ ⟨_, B', k', y⟩ => hG B' H' y k'.exB) ?_ fun σ' H' ⟨z, _⟩ => absurd hm (by omega)
    rintro i v σ' H' H2 hi' ⟨him, B', k', y⟩ hv
    obtain ⟨B2, x, hx, k2, y2, w⟩ := hY F Z B' H' σ' (ρs i) i v H2 k' y hi' hv
    by_cases e : i = m
    · subst e
      obtain ⟨ρt, js, t1, t2⟩ := last x hx
      refine t1 F Z B2 H2 σ' v _ k2 w fun B3 H3 σ3 k3 y3 _ => ?_
      have y13 := x1.trans ((y.trans y2).trans y3)
      rcases t2 with ⟨d, ρe, t2, rfl⟩ | ⟨ρe, t2, rfl⟩
      · exact t2 F Z B3 H3 σ3 _ k3 fun v B4 H4 σ4 k4 y4 w4 => q v B4 H4 σ4 k4 (y13.trans y4) w4
      · exact t2 F Z B3 H3 σ3 _ k3 fun B4 H4 σ4 k4 y4 => q B4 H4 σ4 k4 (y13.trans y4)
    · obtain ⟨ρt, js, ρe, t1, t2, t3⟩ := turn i x (by omega) hx
      refine t1 F Z B2 H2 σ' v _ k2 w fun B3 H3 σ3 k3 y3 _ => ?_
      have fin : ∀ B' H' σ', Ok X.K F Z B' H' σ' ρe → Sub B3 B' → i + 1 ≤ m ∧ ∃ B'', Ok X.K F Z B'' H' σ' (ρs (i + 1)) ∧ Sub B1 B'' := fun B4 H4 σ4 k4 y4 => ⟨by omega, B4, k4.weak t3, ((y.trans y2).trans y3).trans y4⟩
      rcases t2 with t2 | t2
      · exact t2 F Z B3 H3 σ3 _ k3 fin
      · exact t2 F Z B3 H3 σ3 _ k3 fin⟩
/-- while: n turns go on, then the test is false -/
theorem while_goes (hp : PassesOwn (model X.prog X.w) X.A X.env X.xe) (n : Nat) (ρs : Nat → Env') (h0 : Wk ρ (ρs 0))
    (turn : ∀ i, i < n → ∃ ρt ρe, DT X (ρs i) c true ρt ∧ (DB X ρt body (.nx ρe) ∨ DB X ρt body (.ct ρe)) ∧ Wk ρe (ρs (i + 1))) (last : DT X (ρs n) c false ρ1) : DS X ρ (.While c body [] pos) (.nx ρ1) := fun F Z B H σ D k q =>
  ⟨_, ps_while hp pt_s pb_s, fun m σ' H' => ∃ i B', m + i = n ∧ Ok X.K F Z B' H' σ' (ρs i) ∧ Sub B B', ⟨n, 0, B, rfl, k.weak h0, Sub.refl B⟩, by
    rintro m σ' H' ⟨i, B', e, k', y⟩
    by_cases hin : i < n
    · obtain ⟨ρt, ρe, t1, t2, t3⟩ := turn i hin
      refine t1 F Z B' H' σ' _ k' fun B2 H2 k2 y2 => ?_
      rw [if_pos rfl]
      refine ⟨fun σ4 H4 => ∃ B4, Ok X.K F Z B4 H4 σ4 (ρs (i + 1)) ∧ Sub B B4, fun σ4 H4 ⟨B4, k4, y4⟩ => ⟨n - (i + 1), by omega, i + 1, B4, by omega, k4, y4⟩, ?_⟩
      rcases t2 with t2 | t2
      · exact t2 F Z B2 H2 σ' _ k2 fun B4 H4 σ4 k4 y4 => ⟨B4, k4.weak t3, (y.trans y2).trans y4⟩
      · exact t2 F Z B2 H2 σ' _ k2 fun B4 H4 σ4 k4 y4 => ⟨B4, k4.weak t3, (y.trans y2).trans y4⟩
    · have e2 : i = n := by omega
      subst e2
      refine last F Z B' H' σ' _ k' fun B2 H2 k2 y2 => ?_
      rw [if_neg (by decide)]
      exact q B2 H2 σ' k2 (y.trans y2)⟩
end
end
end G

set_option Elab.async false
set_option linter.all false
set_option maxRecDepth 100000
set_option maxHeartbeats 4000000
/- comprehensions, calls of defs, contracts of defs, on data -/
namespace G
open PySem L2 PySem.Spec PyProof.Rows

section
variable {K : PySem.W.Frag} {F : Hp} {Z : Addr → Prop} {B B' H H' : Hp} {σ σ' : L2.St} {ρ ρ' ρ1 : Env'} {p a : Addr} {o o' : HO}
theorem Ok.setN (k : Ok K F Z B H σ ρ) {i : Nat} {a : Option V} : Ok K F Z B H (σ.set i a) (ρ.set i .un) := by
  refine ⟨k.exF, k.exB, k.z, by simp [k.len], ?_⟩
  obtain ⟨own, h1, h2, h3⟩ := k.own
  refine ⟨fun j => if j = i ∧ i < ρ.length then [] else own j, fun j a ha => ?_, fun j m a ha hb => ?_, fun j => ?_⟩
  · dsimp only at ha
    split at ha
    · cases ha
    · exact h1 j a ha
  · dsimp only at ha hb
    split at ha
    · cases ha
    · split at hb
      · cases hb
      · exact h2 j m a ha hb
  · rw [gS_set, gV_set, k.len]
    dsimp only
    by_cases e : j = i ∧ i < ρ.length
    · rw [if_pos e, if_pos e, if_pos e]; exact .un
    · rw [if_neg e, if_neg e, if_neg e]; exact h3 j
def wipeE (ρ : Env') : List Nat → Env'
  | [] => ρ
  | v :: vs => (wipeE ρ vs).set v .un
theorem wipeE_len : ∀ vs : List Nat, (wipeE ρ vs).length = ρ.length
  | [] => rfl
  | v :: vs => by unfold wipeE; rw [List.length_set, wipeE_len vs]
theorem Ok.wipe (k : Ok K F Z B H σ ρ) : ∀ vs : List Nat, Ok K F Z B H (L2.wipe σ vs) (wipeE ρ vs)
  | [] => k
  | v :: vs => by
    unfold L2.wipe wipeE
    exact (Ok.wipe k vs).setN
/-- what is behind a block whose own names stand at vs -/
def Mrg (ρ1 ρn : Env') (vs : List Nat) (ρ' : Env') : Prop := ρ'.length = ρ1.length ∧ ∀ j, (j ∈ vs → gS ρ' j = .un ∨ ∃ x, gS ρ' j = .d x ∧ gS ρ1 j = .d x) ∧ (j ∉ vs → gS ρ' j = .un ∨ gS ρ' j = gS ρn j)
theorem mrg_un {ρn : Env'} {vs : List Nat} (hl : ρn.length = ρ1.length) (h : ∀ j ∈ vs, gS ρn j = .un) : Mrg ρ1 ρn vs ρn := ⟨hl, fun j => ⟨fun m => .inl (h j m), fun _ => .inr rfl⟩⟩
theorem gV_wipe {vs : List Nat} {j : Nat} (h : j ∉ vs) : gV (L2.wipe σ vs) j = gV σ j := by unfold gV; rw [wipe_out h]
theorem Ok.merge {F1 : Hp} {Z1 : Addr → Prop} {ρn : Env'} {vs : List Nat} (k1 : Ok K F1 Z1 B H σ ρ1) (k : Ok K F Z B' H' (L2.wipe σ vs) ρn) (x : Sub B B') (m : Mrg ρ1 ρn vs ρ') : Ok K F Z B' H' σ ρ' := by
  refine ⟨k.exF, k.exB, k.z, k1.len.trans m.1.symm, ?_⟩
  obtain ⟨own, h1, h2, h3⟩ := k.own
  obtain ⟨own1, _, _, h31⟩ := k1.own
  refine ⟨fun j => ifO (gS ρ' j) (own j), fun j a ha => h1 j a (ifO_sub ha), fun j i a ha hb => h2 j i a (ifO_sub ha) (ifO_sub hb), fun j => ?_⟩
  dsimp only
  by_cases hj : j ∈ vs
  · rcases (m.2 j).1 hj with e | ⟨y, e1, e2⟩
    · rw [e]; exact .un
    · rw [e1]
      obtain ⟨v, g1, g2⟩ := k1.at e2
      rw [g1]
      exact .d (dp_mono x g2)
  · rcases (m.2 j).2 hj with e | e
    · rw [e]; exact .un
    · have q := h3 j
      rw [gV_wipe hj] at q
      rw [e]
      generalize gV σ j = v at q ⊢
      generalize gS ρn j = s at q ⊢
      generalize own j = as at q ⊢
      cases q with
      | un => exact .un
      | d q => exact .d q
      | o q => exact .o q
/-- a thing of nobody is held fast -/
theorem Ok.lock (k : Ok K F Z B H σ ρ) (n : New K F Z B H σ ρ p) (h : H p = some o) : Ok K (upd F p o) (fun a => Z a ∨ a = p) B H σ ρ := by
  obtain ⟨own, h1, h2, h3⟩ := k.own
  refine ⟨fun a u e => ?_, k.exB, fun a z => ?_, k.len, own, fun i a ha => ?_, h2, h3⟩
  · by_cases ea : a = p
    · subst ea; rw [upd_same] at e; rw [h]; exact e
    · rw [upd_ne ea] at e; exact k.exF a u e
  · rcases z with z | rfl
    · exact k.z a z
    · exact ⟨n.b, o, h⟩
  · have ea : a ≠ p := fun e => n.not h3 i (e ▸ ha)
    obtain ⟨q1, q2, q3⟩ := h1 i a ha
    rw [upd_ne ea]
    exact ⟨q1, q2, fun z => z.elim q3 ea⟩
theorem Ok.unlock (k : Ok K (upd F p o) (fun a => Z a ∨ a = p) B H σ ρ) (hf : F p = none) (hz : ¬ Z p) : Ok K F Z B H σ ρ ∧ New K F Z B H σ ρ p ∧ H p = some o := by
  obtain ⟨own, h1, h2, h3⟩ := k.own
  have hp : H p = some o := k.exF p o upd_same
  refine ⟨⟨fun a u e => ?_, k.exB, fun a z => k.z a (.inl z), k.len, own, fun i a ha => ?_, h2, h3⟩, ⟨hf, (k.z p (.inr rfl)).1, hz, fun j b v as g1 g2 g3 m => ?_⟩, hp⟩
  · refine k.exF a u ?_
    rw [upd_ne (ne_of_none e hf)]; exact e
  · obtain ⟨q1, q2, q3⟩ := h1 i a ha
    by_cases ea : a = p
    · subst ea; rw [upd_same] at q1; cases q1
    · rw [upd_ne ea] at q1
      exact ⟨q1, q2, fun z => q3 (.inl z)⟩
  · have q := h3 j
    rw [g1, g2] at q
    generalize ho : own j = os at q
    cases q with
    | o q =>
      have e : os = as := ObAt.uni q g3 fun _ _ => rfl
      have mm : p ∈ own j := by rw [ho, e]; exact m
      obtain ⟨q1, _⟩ := h1 j p mm
      rw [upd_same] at q1; cases q1
/-- a thing of nobody is written -/
theorem Ok.poke (k : Ok K F Z B H σ ρ) (n : New K F Z B H σ ρ p) : Ok K F Z B (upd H p o) σ ρ := by
  obtain ⟨own, h1, h2, h3⟩ := k.own
  refine ⟨fun a u e => ?_, fun a u e => ?_, fun a z => ?_, k.len, own, h1, h2, fun i => (h3 i).mono (Sub.refl B) fun a ha => ?_⟩
  · rw [upd_ne (ne_of_none e n.f)]; exact k.exF a u e
  · rw [upd_ne (ne_of_none e n.b)]; exact k.exB a u e
  · rw [upd_ne fun e => n.z (by rw [← e]; exact z)]; exact k.z a z
  · rw [upd_ne fun e => n.not h3 i (by rw [← e]; exact ha)]
theorem New.poke (k : Ok K F Z B H σ ρ) (n : New K F Z B H σ ρ p) : New K F Z B (upd H p o) σ ρ p := by
  refine ⟨n.f, n.b, n.z, fun j b v as g1 g2 g3 m => ?_⟩
  obtain ⟨v', as', f1, f2, f3⟩ := k.ob g1
  rw [g2] at f1
  cases f1
  have np : p ∉ as' := n.o j b v as' g1 g2 f2
  have e : as = as' := ObAt.uni g3 f2 fun a ha => by rw [upd_ne fun e => np (by rw [← e]; exact ha)]
  rw [e] at m
  exact np m
end

section
variable {X : Cx} {ρ ρ' ρ1 ρ2 ρ3 : Env'} {a b c e elt tg iter : Expr} {es ifs : List Expr} {r r1 r2 r3 : R} {pos : Pos} {st : Stmt} {rest sts : List Stmt} {o : O} {xs : List PyData}
def DTs (X : Cx) (ρ : Env') (ifs : List Expr) (b : Bool) (ρ' : Env') : Prop := ∀ F Z B H σ Q, Ok X.K F Z B H σ ρ → (∀ B' H', Ok X.K F Z B' H' σ ρ' → Sub B B' → Q b H') → ∃ t, PTs X ifs t ∧ t σ H Q
def sTs (X : Cx) (ifs : List Expr) : TT := fun σ H Q => ∃ t, PTs X ifs t ∧ t σ H Q
theorem pts_s {ifs : List Expr} : PTs X ifs (sTs X ifs) := ⟨fun pins s σ H Q I ⟨_, h, q⟩ => h.run pins s σ H Q I q⟩
theorem dts_nil : DTs X ρ [] true ρ := fun F Z B H σ Q k q => ⟨_, pts_nil, q B H k (Sub.refl B)⟩
theorem dts_one {x : Bool} (h : DT X ρ c x ρ1) : DTs X ρ [c] x ρ1 := fun F Z B H σ Q k q => ⟨_, pts_one pt_s, h F Z B H σ Q k q⟩

/-- the blocks in which a comprehension's parts run -/
abbrev Blk (X : Cx) (scope : Scope) (P : Cx → Prop) : Prop := ∀ (s : Shared) (H : Hp) (C : Addr) (cl : List (Str × Addr)) (fp : List Addr), P (X.blk s H scope (compEnvC scope cl C X.env) fp)
def bG (X : Cx) (scope : Scope) (tg : Expr) : TG := fun v σ H Q => Blk X scope fun Y => sG Y tg v σ H Q
def bT (X : Cx) (scope : Scope) (ifs : List Expr) : TT := fun σ H Q => Blk X scope fun Y => sTs Y ifs σ H Q
def bE (X : Cx) (scope : Scope) (e : Expr) : TE := fun σ H Q => Blk X scope fun Y => sE Y e σ H Q
theorem pg_b {scope : Scope} : Blk X scope fun Y => PG Y tg (bG X scope tg) := fun s H C cl fp => ⟨fun pins s' σ H' v u Q I r q => pg_s.run pins s' σ H' v u Q I r (q s H C cl fp)⟩
theorem pts_b {scope : Scope} : Blk X scope fun Y => PTs Y ifs (bT X scope ifs) := fun s H C cl fp => ⟨fun pins s' σ H' Q I q => pts_s.run pins s' σ H' Q I (q s H C cl fp)⟩
theorem pe_b {scope : Scope} : Blk X scope fun Y => PE Y e (bE X scope e) := fun s H C cl fp => ⟨fun pins s' σ H' Q I q => pe_s.run pins s' σ H' Q I (q s H C cl fp)⟩

/-- one turn of a comprehension: x taken, y put in (or nothing) -/
def LcT (X : Cx) (scope : Scope) (vs : List Nat) (tg : Expr) (ifs : List Expr) (elt : Expr) (x : PyData) (ρ : Env') (y : Option PyData) (ρ' : Env') : Prop :=
  ∃ ρt js b ρa, (∀ j ∈ js, j ∈ vs) ∧ (Blk X scope fun Y => DG Y ρ tg x js ρt) ∧ (Blk X scope fun Y => DTs Y ρt ifs b ρa) ∧
    (b = true → ∃ z ρe, y = some z ∧ (Blk X scope fun Y => DE Y ρa elt (.d z) ρe) ∧ Wk ρe ρ') ∧ (b = false → y = none ∧ Wk ρa ρ')
theorem wipe_wipe {σ σ3 : L2.St} {vs : List Nat} (e : wipe σ3 vs = wipe (wipe σ vs) vs) : wipe σ3 vs = wipe σ vs := by
  rw [e]
  apply List.ext_getElem?
  intro j
  by_cases hj : j ∈ vs
  · by_cases hl : j < σ.length
    · rw [wipe_in hj (by rw [wipe_length]; exact hl), wipe_in hj hl]
    · rw [List.getElem?_eq_none (by rw [wipe_length, wipe_length]; omega), List.getElem?_eq_none (by rw [wipe_length]; omega)]
  · rw [wipe_out hj]
theorem fm_succ {α : Type} (ys : Nat → Option α) (i : Nat) : (List.range (i + 1)).filterMap ys = (List.range i).filterMap ys ++ (ys i).toList := by
  rw [List.range_succ, List.filterMap_append]
  cases h : ys i <;> simp [h]
theorem lc_go {scope : Scope} {vs : List Nat} (hi : DI X ρ tg iter xs ρ1) (ρs : Nat → Env') (ys : Nat → Option PyData) (h0 : Wk (wipeE ρ1 vs) (ρs 0)) (hu : ∀ i, Wk (wipeE (ρs i) vs) (ρs i))
    (turn : ∀ i x, xs[i]? = some x → LcT X scope vs tg ifs elt x (ρs i) (ys i) (ρs (i + 1))) (hm : Mrg ρ1 (ρs xs.length) vs ρ') (hz : xs.length ≤ sizeLine)
    {F : Hp} {Z : Addr → Prop} {B H : Hp} {σ : L2.St} {Q : VK} (k : Ok X.K F Z B H σ ρ)
    (q : ∀ p us B' H', Ok X.K F Z B' H' σ ρ' → Sub B B' → New X.K F Z B' H' σ ρ' p → H' p = some (.lst us) → DpAll X.K B' us ((List.range xs.length).filterMap ys) → Q (.ref p) H') :
    tLc (sI X tg iter) (bG X scope tg) (bT X scope ifs) (bE X scope elt) vs σ H Q :=
  hi F Z B H σ _ k fun J n G Y B1 H1 k1 x1 hn W hG hY D hD => by
    subst hn
    have kw := (k1.wipe vs).weak h0
    obtain ⟨frD, _, frZ⟩ := k1.fresh hD
    refine lc_it W (fun i H' => ∃ B' acc, Ok X.K F Z B' H' (wipe σ vs) (ρs i) ∧ Sub B1 B' ∧ New X.K F Z B' H' (wipe σ vs) (ρs i) D ∧ H' D = some (.lst acc) ∧ DpAll X.K B' acc ((List.range i).filterMap ys)) ?_ ?_ ?_ ?_
    · exact ⟨B1, [], kw.loose hD _, Sub.refl B1, kw.laid hD _, upd_same, .nil⟩
    · rintro i H' _ ⟨B', acc, k', y, _⟩
      exact hG B' H' y k'.exB
    · rintro i v H' H2 hi' ⟨B', acc, k', y, nw, hD', t⟩ hv
      have hacc : acc.length ≤ i := by
        rw [DpAll.length t]
        exact Nat.le_trans (List.length_filterMap_le _ _) (by simp)
      obtain ⟨B2, x, hx, k2, y2, w⟩ := hY _ _ B' H' (wipe σ vs) (ρs i) i v H2 (k'.lock nw hD') y hi' hv
      obtain ⟨ρt, js, b, ρa, t1, t2, t3, t4, t5⟩ := turn i x hx
      intro s0 H0 C0 cl0 fp0
      refine t2 s0 H0 C0 cl0 fp0 _ _ B2 H2 (wipe σ vs) v _ k2 w fun B3 H3 σ3 k3 y3 wp => ?_
      have e3 : wipe σ3 vs = wipe σ vs := wipe_wipe (wp vs t1)
      have close : ∀ {ρe : Env'} {B5 H5 : Hp}, Ok X.K (upd F D (.lst acc)) (fun a => Z a ∨ a = D) B5 H5 σ3 ρe → Wk ρe (ρs (i + 1)) → Ok X.K (upd F D (.lst acc)) (fun a => Z a ∨ a = D) B5 H5 (wipe σ vs) (ρs (i + 1)) := by
        intro ρe B5 H5 k5 wk
        have q5 := ((k5.weak wk).wipe vs).weak (hu (i + 1))
        rw [e3] at q5
        exact q5
      refine ⟨by rw [e3], ?_⟩
      intro s1 H1' C1 cl1 fp1
      refine t3 s1 H1' C1 cl1 fp1 _ _ B3 H3 σ3 _ k3 fun B4 H4 k4 y4 => ?_
      cases b with
      | true =>
        rw [if_pos rfl]
        obtain ⟨z, ρe, ez, u1, u2⟩ := t4 rfl
        intro s2 H2' C2 cl2 fp2
        refine u1 s2 H2' C2 cl2 fp2 _ _ B4 H4 σ3 _ k4 fun vz B5 H5 k5 y5 w5 => ?_
        obtain ⟨k6, n6, h6⟩ := (close k5 u2).unlock frD frZ
        have yy : Sub B' B5 := ((y2.trans y3).trans y4).trans y5
        refine ⟨acc, h6, by omega, B5, acc ++ [vz], k6.poke n6, y.trans yy, n6.poke k6, upd_same, ?_⟩
        rw [fm_succ, ez]
        exact _root_.G.DpAll.append (dpAll_mono yy t) (.cons w5 .nil)
      | false =>
        rw [if_neg (by decide)]
        obtain ⟨ez, u2⟩ := t5 rfl
        obtain ⟨k6, n6, h6⟩ := (close k4 u2).unlock frD frZ
        have yy : Sub B' B4 := (y2.trans y3).trans y4
        refine ⟨B4, acc, k6, y.trans yy, n6, h6, ?_⟩
        rw [fm_succ, ez]
        simp only [Option.toList_none, List.append_nil]
        exact dpAll_mono yy t
    · rintro H' ⟨B', acc, k', y, nw, hD', t⟩
      obtain ⟨k6, n6, h6⟩ := (Ok.merge k1 (k'.lock nw hD') y hm).unlock frD frZ
      exact q D acc B' H' k6 (x1.trans y) n6 h6 t
/-- [elt for tg in iter if ..] -/
theorem dl_lc {scope : Scope} {own : List (Str × Nat)} (hc : X.calm = true) (hN : X.N.Nodup) (ok : BlkOk X.N X.env.scope scope own) (hi : DI X ρ tg iter xs ρ1) (ρs : Nat → Env') (ys : Nat → Option PyData)
    (turn : ∀ i x, xs[i]? = some x → LcT X scope (own.map (·.2)) tg ifs elt x (ρs i) (ys i) (ρs (i + 1))) (h0 : Wk (wipeE ρ1 (own.map (·.2))) (ρs 0)) (hu : ∀ i, Wk (wipeE (ρs i) (own.map (·.2))) (ρs i)) (hm : Mrg ρ1 (ρs xs.length) (own.map (·.2)) ρ') (hz : xs.length ≤ sizeLine)
    (hs : ∀ x, foldedSetIterable iter X.env x = pure x := by intro _; rfl) : DL X ρ (.ListComp elt [⟨tg, iter, ifs, 0⟩] scope pos) ((List.range xs.length).filterMap ys) ρ' := fun F Z B H σ Q k q =>
  ⟨_, pe_lc hc hN pi_s ok pg_b pts_b pe_b hs, lc_go hi ρs ys h0 hu turn hm hz k q⟩
theorem ds_setLc {i : Nat} {y : Str} {py spos : Pos} {s0 : Sl} {scope : Scope} {own : List (Str × Nat)} (hc : X.calm = true) (hN : X.N.Nodup) (ok : BlkOk X.N X.env.scope scope own) (hsw : swapsWith (.ListComp elt [⟨tg, iter, ifs, 0⟩] scope pos) (some (.Name y py)) spos.line X.env = pure true)
    (hi : DI X ρ tg iter xs ρ1) (ρs : Nat → Env') (ys : Nat → Option PyData)
    (turn : ∀ i x, xs[i]? = some x → LcT X scope (own.map (·.2)) tg ifs elt x (ρs i) (ys i) (ρs (i + 1))) (h0 : Wk (wipeE ρ1 (own.map (·.2))) (ρs 0)) (hu : ∀ i, Wk (wipeE (ρs i) (own.map (·.2))) (ρs i)) (hm : Mrg ρ1 (ρs xs.length) (own.map (·.2)) ρ') (hz : xs.length ≤ sizeLine)
    (hr : ρ'[i]? = some s0 := by rfl) (hy : X.N[i]? = some y := by rfl) (hyl : X.env.scope.names.lookup y = some .local := by rfl) (hs : ∀ x, foldedSetIterable iter X.env x = pure x := by intro _; rfl) :
    DS X ρ (.Assign [.Name y py] (.ListComp elt [⟨tg, iter, ifs, 0⟩] scope pos) spos) (.nx (ρ'.set i (.o (.lst ((List.range xs.length).filterMap ys))))) := fun F Z B H σ D k q =>
  ⟨_, ps_setLc hc hN hy hyl hsw pi_s ok pg_b pts_b pe_b hs, lc_go hi ρs ys h0 hu turn hm hz k fun p us B' H' k' x n hp t => q B' H' _ (k'.take n (List.getElem?_eq_some_iff.mp hr).1 (.lst hp t)) x⟩
/-- one turn without tests -/
theorem LcT.map {scope : Scope} {vs js : List Nat} {x z : PyData} {ρt ρe : Env'} (hj : ∀ j ∈ js, j ∈ vs) (h1 : Blk X scope fun Y => DG Y ρ tg x js ρt) (h2 : Blk X scope fun Y => DE Y ρt elt (.d z) ρe) (w : Wk ρe ρ') : LcT X scope vs tg [] elt x ρ (some z) ρ' :=
  ⟨ρt, js, true, ρt, hj, h1, fun _ _ _ _ _ => dts_nil, fun _ => ⟨z, ρe, rfl, h2, w⟩, fun h => nomatch h⟩
/-- one turn with a test -/
theorem LcT.iff {scope : Scope} {vs js : List Nat} {x z : PyData} {b : Bool} {ρt ρa ρe : Env'} (hj : ∀ j ∈ js, j ∈ vs) (h1 : Blk X scope fun Y => DG Y ρ tg x js ρt) (ht : Blk X scope fun Y => DT Y ρt c b ρa) (h2 : b = true → Blk X scope fun Y => DE Y ρa elt (.d z) ρe) (w : b = true → Wk ρe ρ') (w' : b = false → Wk ρa ρ') :
    LcT X scope vs tg [c] elt x ρ (if b then some z else none) ρ' :=
  ⟨ρt, js, b, ρa, hj, h1, fun s H C cl fp => dts_one (ht s H C cl fp), fun e => ⟨z, ρe, by rw [e]; rfl, h2 e, w e⟩, fun e => ⟨by rw [e]; rfl, w' e⟩⟩
theorem fm_take {α β : Type} (g : α → Option β) (xs : List α) : ∀ n : Nat, (List.range n).filterMap (fun i => xs[i]?.bind g) = (xs.take n).filterMap g
  | 0 => by simp
  | n + 1 => by
    rw [fm_succ, fm_take g xs n, List.take_add_one, List.filterMap_append]
    congr 1
    cases xs[n]? with
    | none => rfl
    | some y => cases h : g y <;> simp [h]
theorem fm_at {α β : Type} (g : α → Option β) (xs : List α) : (List.range xs.length).filterMap (fun i => xs[i]?.bind g) = xs.filterMap g := by
  rw [fm_take, List.take_length]
end
end G

set_option Elab.async false
set_option linter.all false
set_option maxRecDepth 100000
set_option maxHeartbeats 4000000
/- contracts of defs, calls, methods of our own lists -/
namespace G
open PySem L2 PySem.Spec PyProof.Rows

section
variable {K : PySem.W.Frag} {F F' : Hp} {Z Z' : Addr → Prop} {B B' H H' : Hp} {σ σ' : L2.St} {ρ ρ' ρ1 : Env'}
theorem gV_cons0 {v : Option V} {σ : L2.St} : gV (v :: σ) 0 = v := rfl
theorem gV_consS {v : Option V} {σ : L2.St} {i : Nat} : gV (v :: σ) (i + 1) = gV σ i := by unfold gV; simp
theorem gS_cons0 {v : Sl} {σ : Env'} : gS (v :: σ) 0 = v := rfl
theorem gS_consS {v : Sl} {σ : Env'} {i : Nat} : gS (v :: σ) (i + 1) = gS σ i := by unfold gS; simp
theorem gS_nil {i : Nat} : gS [] i = .un := rfl
theorem slots_d : ∀ {ds : List PyData} {vs : List V}, DpAll K B vs ds → ∀ i, SlAt K B H (gV (vs.map some) i) [] (gS (ds.map Sl.d) i)
  | _, _, .nil, i => by show SlAt K B H _ [] (gS [] i); rw [gS_nil]; exact .un
  | _, _, .cons h t, 0 => .d h
  | _, _, .cons h t, i + 1 => by rw [List.map_cons, List.map_cons, gV_consS, gS_consS]; exact slots_d t i
theorem okD {ds : List PyData} {vs : List V} (exF : Sub F H) (exB : Sub B H) (z : ∀ a, Z a → B a = none ∧ ∃ o, H a = some o) (t : DpAll K B vs ds) : Ok K F Z B H (vs.map some) (ds.map Sl.d) :=
  ⟨exF, exB, z, by rw [List.length_map, List.length_map, DpAll.length t], fun _ => [], ⟨fun _ _ h => absurd h (by simp), fun _ _ _ h => absurd h (by simp), slots_d t⟩⟩
theorem okS {ds : List PyData} {vs : List V} {v0 : V} {as : List Addr} {b : Ob} (exF : Sub F H) (exB : Sub B H) (z : ∀ a, Z a → B a = none ∧ ∃ o, H a = some o) (h0 : ObAt K B H v0 as b) (hf : ∀ a ∈ as, F a = none ∧ B a = none ∧ ¬ Z a) (t : DpAll K B vs ds) :
    Ok K F Z B H ((v0 :: vs).map some) (.o b :: ds.map Sl.d) := by
  refine ⟨exF, exB, z, by simp [DpAll.length t], fun i => if i = 0 then as else [], fun i a ha => ?_, fun i j a ha hb => ?_, fun i => ?_⟩
  · dsimp only at ha
    split at ha
    · exact hf a ha
    · cases ha
  · dsimp only at ha hb
    split at ha
    · split at hb
      · rename_i h1 h2; rw [h1, h2]
      · cases hb
    · cases ha
  · cases i with
    | zero => exact .o h0
    | succ i =>
      rw [List.map_cons, gV_consS, gS_consS]
      exact slots_d t i
theorem Ok.app (k : Ok K F Z B H σ ρ) (n : Nat) : Ok K F Z B H (σ ++ List.replicate n none) (ρ ++ List.replicate n .un) := by
  refine ⟨k.exF, k.exB, k.z, by simp [k.len], ?_⟩
  obtain ⟨own, h1, h2, h3⟩ := k.own
  refine ⟨own, h1, h2, fun i => ?_⟩
  have q := h3 i
  by_cases h : i < ρ.length
  · have e1 : gS (ρ ++ List.replicate n .un) i = gS ρ i := by unfold gS; rw [List.getElem?_append_left h]
    have e2 : gV (σ ++ List.replicate n none) i = gV σ i := by unfold gV; rw [List.getElem?_append_left (by rw [k.len]; exact h)]
    rw [e1, e2]; exact q
  · have e0 : gS ρ i = .un := by unfold gS; rw [List.getElem?_eq_none (by omega)]; rfl
    have e1 : gS (ρ ++ List.replicate n .un) i = .un := by
      unfold gS
      rw [List.getElem?_append_right (by omega), List.getElem?_replicate]
      split <;> rfl
    rw [e0] at q
    rw [e1]
    generalize own i = as at q ⊢
    generalize gV σ i = vv at q
    cases q
    exact .un
end

/-! ### contracts -/
/-- a def of data: Ψ arguments answer -/
def spP (K : PySem.W.Frag) (Ψ : List PyData → PyData → Prop) : Sp := fun vs H Q _ => ∃ F Z B ds d, Ψ ds d ∧ Ok K F Z B H (vs.map some) (ds.map Sl.d) ∧
  ∀ v B' H', Ok K F Z B' H' (vs.map some) (ds.map Sl.d) → Sub B B' → Dp K B' v d → Q v H'
/-- a def that draws: Ψ source arguments answer source -/
def spS (K : PySem.W.Frag) (Ψ : Src → List PyData → PyData → Src → Prop) : Sp := fun vs H Q _ => ∃ F Z B a st ds d st', Ψ st ds d st' ∧ Ok K F Z B H (vs.map some) (.o (.src a st) :: ds.map Sl.d) ∧
  ∀ v B' H', Ok K F Z B' H' (vs.map some) (.o (.src a st') :: ds.map Sl.d) → Sub B B' → Dp K B' v d → Q v H'

section
variable {P : Program} {w : World} {K : PySem.W.Frag} {mg : Str → Option Value} {base : Heap} {x qual : Str} {st : Stmt} {f : Addr} {fd : FuncData} {N ps : List Str} {k : Nat}
theorem fnP_of {Ψ : List PyData → PyData → Prop} (Fn : Fun K x qual st f fd) (S : FnScope N ps (defScope st)) (len : ∀ ds d, Ψ ds d → ds.length = ps.length)
    (body : ∀ (cdv : Value) (A : Around) (outer : List Env) (s : Shared) (H : Hp) (E : XK) (ds : List PyData) (d : PyData), A.guards = some [] → Room k (A.deeper (envOfC qual (defScope st) s.heap.objs.size f cdv)) → Ψ ds d →
      ∃ ρ', DB (cxOf L2.CX0 P w K mg base N qual (defScope st) f cdv A outer s H E).nox (ds.map Sl.d ++ List.replicate (N.length - ds.length) .un) (defBody st) (.rt d ρ')) :
    FnG P w K mg base (k + 1) f fd ps (spP K Ψ) := by
  refine fnG_of Fn S ?_ ?_
  · rintro vs H Q E ⟨F, Z, B, ds, d, h, k, _⟩
    have e := k.len
    rw [List.length_map, List.length_map] at e
    rw [e, len ds d h]
  · rintro cdv A outer s H vs Q E hg hr ⟨F, Z, B, ds, d, h, k, q⟩
    obtain ⟨ρ', hb⟩ := body cdv A outer s H E ds d hg hr h
    have e := k.len
    rw [List.length_map, List.length_map] at e
    have kk := k.app (N.length - ds.length)
    refine ⟨_, pb_s, hb F Z B H _ _ (by unfold L2.start; rw [e]; exact kk) fun v B' H' σ' k' y dv => ?_⟩
    refine q v B' H' (okD k'.exF k'.exB k'.z ?_) y dv
    -- the arguments read as before
    have rd : DpAll K B vs ds := by
      have all : ∀ (vs : List V) (ds : List PyData), vs.length = ds.length → (∀ i, SlAt K B H (gV (vs.map some) i) [] (gS (ds.map Sl.d) i) ∨ ∃ as, SlAt K B H (gV (vs.map some) i) as (gS (ds.map Sl.d) i)) → DpAll K B vs ds := by
        intro vs
        induction vs with
        | nil => intro ds hl _; cases ds with | nil => exact .nil | cons _ _ => cases hl
        | cons v vs ih =>
          intro ds hl hh
          cases ds with
          | nil => cases hl
          | cons d ds =>
            refine .cons ?_ (ih ds (by simpa using hl) fun i => ?_)
            · rcases hh 0 with q | ⟨as, q⟩
              · cases q with | d q => exact q
              · cases q with | d q => exact q
            · have q := hh (i + 1)
              rw [List.map_cons, List.map_cons, gV_consS, gS_consS] at q
              exact q
      obtain ⟨own, _, _, h3⟩ := k.own
      exact all vs ds e fun i => .inr ⟨own i, h3 i⟩
    exact dpAll_mono y rd
theorem dpAll_of {B H : Hp} {own : Nat → List Addr} : ∀ (vs : List V) (ds : List PyData), vs.length = ds.length → (∀ i, SlAt K B H (gV (vs.map some) i) (own i) (gS (ds.map Sl.d) i)) → DpAll K B vs ds := by
  intro vs
  induction vs generalizing own with
  | nil => intro ds hl _; cases ds with | nil => exact .nil | cons _ _ => cases hl
  | cons v vs ih =>
    intro ds hl hh
    cases ds with
    | nil => cases hl
    | cons d ds =>
      refine .cons ?_ (ih (own := fun i => own (i + 1)) ds (by simpa using hl) fun i => ?_)
      · have q := hh 0
        rw [List.map_cons, List.map_cons, gV_cons0, gS_cons0] at q
        generalize own 0 = as at q
        cases q with | d q => exact q
      · have q := hh (i + 1)
        rw [List.map_cons, List.map_cons, gV_consS, gS_consS] at q
        exact q
theorem fnS_of {Ψ : Src → List PyData → PyData → Src → Prop} (Fn : Fun K x qual st f fd) (S : FnScope N ps (defScope st)) (len : ∀ st ds d st', Ψ st ds d st' → ds.length + 1 = ps.length)
    (body : ∀ (cdv : Value) (A : Around) (outer : List Env) (s : Shared) (H : Hp) (E : XK) (a : Addr) (sr : Src) (ds : List PyData) (d : PyData) (sr' : Src), A.guards = some [] → Room k (A.deeper (envOfC qual (defScope st) s.heap.objs.size f cdv)) → Ψ sr ds d sr' →
      ∃ ρ', ρ'[0]? = some (.o (.src a sr')) ∧ DB (cxOf L2.CX0 P w K mg base N qual (defScope st) f cdv A outer s H E).nox (.o (.src a sr) :: (ds.map Sl.d ++ List.replicate (N.length - (ds.length + 1)) .un)) (defBody st) (.rt d ρ')) :
    FnG P w K mg base (k + 1) f fd ps (spS K Ψ) := by
  refine fnG_of Fn S ?_ ?_
  · rintro vs H Q E ⟨F, Z, B, a, sr, ds, d, sr', h, k, _⟩
    have e := k.len
    rw [List.length_map, List.length_cons, List.length_map] at e
    rw [e, len _ ds d _ h]
  · rintro cdv A outer s H vs Q E hg hr ⟨F, Z, B, a, sr, ds, d, sr', h, k, q⟩
    obtain ⟨ρ', h0, hb⟩ := body cdv A outer s H E a sr ds d sr' hg hr h
    have e := k.len
    rw [List.length_map, List.length_cons, List.length_map] at e
    have kk := k.app (N.length - (ds.length + 1))
    refine ⟨_, pb_s, hb F Z B H _ _ (by unfold L2.start; rw [e]; exact kk) fun v B' H' σ' k' y dv => ?_⟩
    cases vs with
    | nil => cases e
    | cons v0 vs =>
      obtain ⟨own, h1, h2, h3⟩ := k.own
      have rd : DpAll K B vs ds := by
        refine dpAll_of (H := H) (own := fun i => own (i + 1)) vs ds (by simpa using e) fun i => ?_
        have q := h3 (i + 1)
        rw [List.map_cons, gV_consS, gS_consS] at q
        exact q
      have e0 : v0 = .ref a := by
        have q := h3 0
        rw [List.map_cons, gV_cons0, gS_cons0] at q
        generalize own 0 = as at q
        cases q with | o q => cases q; rfl
      obtain ⟨v', as, g1, g2, g3⟩ := k'.ob (gS_some h0)
      have e1 : v' = .ref a := by cases g2; rfl
      subst e0 e1
      exact q v B' H' (okS k'.exF k'.exB k'.z g2 g3 (dpAll_mono y rd)) y dv
end

/-! ### calls -/
section
variable {X : Cx} {ρ ρ' ρ1 ρ2 ρ3 : Env'} {a b c e : Expr} {es : List Expr} {r r1 r2 r3 : R} {pos p : Pos} {k : Nat} {f : Addr} {fd : FuncData} {ps : List Str} {x : Str} {ds : List PyData} {d : PyData}
theorem de_callP {Ψ : List PyData → PyData → Prop} (Fn : FnG X.prog X.w X.K X.mg X.base k f fd ps (spP X.K Ψ)) (hgd : X.A.guards = some []) (hr : Room k X.A) (hm : X.mg x = some (.ref f)) (hk : PySem.W.keepIn X.K (.ref f) = true) (hb : Binds X.K fd ps [])
    (hΨ : Ψ ds d) (h : DA X ρ (e :: es) ds ρ1) (hg : Gl X x := by rfl) (hdb : (x == ("__debug__" : Str)) = false := by decide) (he : starEach (e :: es) X.env = (false, eval e X.env) :: starEach es X.env := by rfl)
    (hpl : (backTo pos (starEach es X.env)).any (·.1) = false := by rfl) : DE X ρ (.Call (.Name x p) (e :: es) [] pos) (.d d) ρ1 := fun F Z B H σ Q k' q =>
  ⟨_, pe_callG Fn hgd hr hg hm hk hb pa_s hdb he hpl, h F Z B H σ _ k' fun vs B1 H1 k1 x1 t => by
    show spP X.K Ψ (vs ++ []) H1 Q L2.E0
    rw [List.append_nil]
    refine ⟨H1, fun b => H1 b ≠ none ∧ B1 b = none, B1, ds, d, hΨ, okD (Sub.refl H1) k1.exB (fun b hb => ⟨hb.2, Option.ne_none_iff_exists'.mp hb.1⟩) t, fun v B2 H2 k2 y w => ?_⟩
    exact q v B2 H2 (k1.grow y k2.exF k2.exB fun b hb hb' => (k2.z b ⟨hb, hb'⟩).1) (x1.trans y) w⟩
theorem de_callS {Ψ : Src → List PyData → PyData → Src → Prop} {i : Nat} {sa : Addr} {sr sr' : Src} (Fn : FnG X.prog X.w X.K X.mg X.base k f fd ps (spS X.K Ψ)) (hgd : X.A.guards = some []) (hr : Room k X.A) (hm : X.mg x = some (.ref f)) (hk : PySem.W.keepIn X.K (.ref f) = true) (hb : Binds X.K fd ps [])
    (hΨ : Ψ sr ds d sr') (h0 : DE X ρ e (.o i) ρ1) (h : DA X ρ1 es ds ρ2) (hs : ρ2[i]? = some (.o (.src sa sr)) := by rfl) (hg : Gl X x := by rfl) (hdb : (x == ("__debug__" : Str)) = false := by decide) (he : starEach (e :: es) X.env = (false, eval e X.env) :: starEach es X.env := by rfl)
    (hpl : (backTo pos (starEach es X.env)).any (·.1) = false := by rfl) : DE X ρ (.Call (.Name x p) (e :: es) [] pos) (.d d) (ρ2.set i (.o (.src sa sr'))) := fun F Z B H σ Q k' q =>
  ⟨_, pe_callG Fn hgd hr hg hm hk hb (pa_cons pe_s pa_s he) hdb he hpl, h0 F Z B H σ _ k' fun v0 B0 H0 k0 x0 w0 => h F Z B0 H0 σ _ k0 fun vs B1 H1 k1 x1 t => by
    show spS X.K Ψ ((v0 :: vs) ++ []) H1 Q L2.E0
    rw [List.append_nil]
    obtain ⟨v', as, g1, g2, g3⟩ := k1.ob (gS_some hs)
    have w' : gV σ i = some v0 := w0
    rw [w'] at g1
    cases g1
    have eas := g2
    cases g2 with
    | @src _ l _ n1 n2 n3 =>
    have fa := g3 sa List.mem_cons_self
    have fl := g3 l (List.mem_cons_of_mem _ List.mem_cons_self)
    let F' : Hp := fun b => if b = sa ∨ b = l then none else H1 b
    have F'n : ∀ b, (b = sa ∨ b = l) → F' b = none := fun b hb => if_pos hb
    have F'o : ∀ b, ¬ (b = sa ∨ b = l) → F' b = H1 b := fun b hb => if_neg hb
    have FF : Sub F F' := fun b o hb => by
      rw [F'o b fun z => ?_]
      · exact k1.exF b o hb
      · rcases z with z | z
        · rw [z, fa.1] at hb; cases hb
        · rw [z, fl.1] at hb; cases hb
    have F'H : Sub F' H1 := fun b o hb => by
      by_cases z : b = sa ∨ b = l
      · rw [F'n b z] at hb; cases hb
      · rw [F'o b z] at hb; exact hb
    refine ⟨F', fun b => (H1 b ≠ none ∧ B1 b = none) ∧ ¬ (b = sa ∨ b = l), B1, sa, sr, ds, d, sr', hΨ, okS F'H k1.exB (fun b hb => ⟨hb.1.2, Option.ne_none_iff_exists'.mp hb.1.1⟩) eas (fun b hb => ?_) t, fun v B2 H2 k2 y w => ?_⟩
    · have hb' : b = sa ∨ b = l := by simpa using hb
      exact ⟨F'n b hb', (g3 b hb).2.1, fun z => z.2 hb'⟩
    · obtain ⟨v2, as2, u1, u2, u3⟩ := k2.ob (i := 0) (b := .src sa sr') rfl
      obtain ⟨own, o1, o2, o3⟩ := k1.own
      have oi : own i = [sa, l] := by
        have qq := o3 i
        rw [gS_some hs, w'] at qq
        generalize own i = os at qq
        cases qq with
        | o qq => exact ObAt.uni qq eas fun _ _ => rfl
      have hi : i < ρ2.length := (List.getElem?_eq_some_iff.mp hs).1
      have ev : v2 = .ref sa := by cases u2; rfl
      subst ev
      have zz : ∀ b, b ∉ [sa, l] → (∃ o, H1 b = some o) → B1 b = none → B2 b = none ∧ H2 b = H1 b := fun b hb ⟨o, ho⟩ hb1 => by
        have nb : ¬ (b = sa ∨ b = l) := by simpa using hb
        refine ⟨(k2.z b ⟨⟨by rw [ho]; simp, hb1⟩, nb⟩).1, ?_⟩
        rw [ho]
        exact k2.exF b o (by rw [F'o b nb]; exact ho)
      refine q v B2 H2 ⟨FF.trans k2.exF, k2.exB, fun b hb => ?_, by simp [k1.len], fun j => if j = i then as2 else own j, fun j b hb => ?_, fun j m b hb hb' => ?_, fun j => ?_⟩ ((x0.trans x1).trans y) w
      · obtain ⟨q1, q2⟩ := k1.z b hb
        have nb : b ∉ [sa, l] := fun m => (g3 b m).2.2 hb
        obtain ⟨q3, q4⟩ := zz b nb q2 q1
        obtain ⟨o, ho⟩ := q2
        exact ⟨q3, o, q4.trans ho⟩
      · dsimp only at hb
        split at hb
        · obtain ⟨t1, t2, t3⟩ := u3 b hb
          refine ⟨FF.none t1, t2, fun hz => ?_⟩
          obtain ⟨q1, q2⟩ := k1.z b hz
          have nb : b ∉ [sa, l] := fun m => (g3 b m).2.2 hz
          exact t3 ⟨⟨by obtain ⟨o, ho⟩ := q2; rw [ho]; simp, q1⟩, by simpa using nb⟩
        · rename_i nj
          obtain ⟨t1, t2, t3⟩ := o1 j b hb
          have nb : b ∉ [sa, l] := fun m => nj (o2 j i b hb (by rw [oi]; exact m))
          exact ⟨t1, (zz b nb ((o3 j).live b hb) t2).1, t3⟩
      · have cross : ∀ {j : Nat}, j ≠ i → b ∈ own j → b ∉ as2 := fun {j} nj h1 h2 => by
          have nb : b ∉ [sa, l] := fun m => nj (o2 j i b h1 (by rw [oi]; exact m))
          obtain ⟨o, ho⟩ := (o3 j).live b h1
          exact (u3 b h2).2.2 ⟨⟨by rw [ho]; simp, (o1 j b h1).2.1⟩, by simpa using nb⟩
        dsimp only at hb hb'
        by_cases ej : j = i
        · by_cases em : m = i
          · rw [ej, em]
          · rw [if_pos ej] at hb; rw [if_neg em] at hb'
            exact absurd hb (cross em hb')
        · by_cases em : m = i
          · rw [if_neg ej] at hb; rw [if_pos em] at hb'
            exact absurd hb' (cross ej hb)
          · rw [if_neg ej] at hb; rw [if_neg em] at hb'
            exact o2 j m b hb hb'
      · rw [gS_set]
        by_cases ej : j = i
        · subst ej
          simp only [hi, and_true, if_true]
          rw [w']; exact .o u2
        · simp only [ej, false_and, if_false]
          refine (o3 j).mono y fun b hb => ?_
          have nb : b ∉ [sa, l] := fun m => ej (o2 j i b hb (by rw [oi]; exact m))
          exact (zz b nb ((o3 j).live b hb) (o1 j b hb).2.1).2⟩
/-- xs.append(e), xs a list of our own -/
theorem ds_append {i : Nat} {xs : List PyData} {y : PyData} {apos : Pos} (hz : xs.length < sizeLine) (h0 : DE X ρ a (.o i) ρ1) (h : DE X ρ1 e (.d y) ρ2) (hs0 : ρ1[i]? = some (.o (.lst xs)) := by rfl) (hs : ρ2[i]? = some (.o (.lst xs)) := by rfl) (hbase : attributeBase a "append" X.env (eval a X.env) = eval a X.env := by rfl)
    (hfew : ((backTo p (starEach [e] X.env)).all (fun x => !x.1) && (backToKw p (keywordEach [] X.env)).all (fun x => x.1.isSome) && decide ([e].length + ([] : List Keyword).length + (if ([] : List Keyword).isEmpty then 0 else 1) < 30)) = true := by rfl)
    (hline : (apos.endLine == p.line) = true := by rfl) (he : starEach [e] X.env = (false, eval e X.env) :: starEach [] X.env := by rfl) (hpl : (backTo p (starEach [] X.env)).any (·.1) = false := by rfl) (hsw : swapsWith (.Call (.Attribute a "append" apos) [e] [] p) none pos.line X.env = pure false := by rfl) :
    DS X ρ (.Expr (.Call (.Attribute a "append" apos) [e] [] p) pos) (.nx (ρ2.set i (.o (.lst (xs ++ [y]))))) := fun F Z B H σ D k q =>
  ⟨_, ps_expr (pe_bm PySem.F.plainAttrs_list PySem.F.slot_list_append PySem.F.type_list_append mt_append pe_s (pa_cons pe_s pa_nil he) hbase hfew hline he hpl) hsw, h0 F Z B H σ _ k fun v B1 H1 k1 x1 w1 => by
    obtain ⟨v', as, g1, g2, _⟩ := k1.ob (gS_some hs0)
    have w' : gV σ i = some v := w1
    rw [w'] at g1
    cases g1
    cases g2 with
    | @lst l us _ hl t =>
    refine ⟨.inl ⟨rfl, us, SqL.of hl⟩, h F Z B1 H1 σ _ k1 fun u B2 H2 k2 x2 w2 => ?_⟩
    obtain ⟨v', as, g1, g2, _⟩ := k2.ob (gS_some hs)
    rw [w'] at g1
    cases g1
    cases g2 with
    | @lst _ us2 _ hl2 t2 =>
    refine ⟨l, us2, u, rfl, rfl, hl2, by rw [DpAll.length t2]; exact hz, ?_⟩
    refine q B2 _ σ (k2.turn (gS_some hs) w' (.lst hl2 t2) (.lst upd_same (G.DpAll.append t2 (.cons w2 .nil))) fun b hb => ?_) (x1.trans x2)
    rw [upd_ne fun z => hb (by rw [z]; exact List.mem_singleton.mpr rfl)]⟩
end
end G

set_option Elab.async false
set_option linter.all false
set_option maxRecDepth 100000
set_option maxHeartbeats 4000000
/- repr, sorted, dicts whose keys are tuples -/
namespace G
open PySem L2 PySem.Spec PyProof.Rows

/-! ### repr -/
section
variable {K : PySem.W.Frag} {B : Hp}
mutual
theorem dp_noDict : ∀ {d : PyData} {v : V}, Dp K B v d → d.showable = true → d.hasDict = false
  | _, _, .non, _ => rfl
  | _, _, .bl b, _ => rfl
  | _, _, .int i, _ => rfl
  | _, _, .str z, _ => rfl
  | _, _, .lst s r, h => by rw [PyData.hasDict]; exact dpAll_noDict r (by rwa [PyData.showable] at h)
  | _, _, .tup s _ r, h => by rw [PyData.hasDict]; exact dpAll_noDict r (by rwa [PyData.showable] at h)
  | _, _, .dct _ _ _, h => by
    rw [PyData.showable, PyData.showableKv, big_no] at h
    cases h
theorem dpAll_noDict : ∀ {ds : List PyData} {vs : List V}, DpAll K B vs ds → PyData.showableAll ds = true → PyData.hasDictAll ds = false
  | _, _, .nil, _ => rfl
  | _, _, .cons h t, n => by
    rw [PyData.showableAll, Bool.and_eq_true] at n
    rw [PyData.hasDictAll, dp_noDict h n.1, dpAll_noDict t n.2]; rfl
end
end
mutual
theorem alike_noDict : ∀ d : PyData, PySem.W.alike d d = true → d.hasDict = false
  | .none, _ => rfl
  | .bool _, _ => rfl
  | .int _, _ => rfl
  | .str _, _ => rfl
  | .list xs, h => by rw [PyData.hasDict]; exact alikeAll_noDict xs (by rwa [PySem.W.alike] at h)
  | .tuple xs, h => by rw [PyData.hasDict]; exact alikeAll_noDict xs (by rwa [PySem.W.alike] at h)
  | .dict _, h => by simp [PySem.W.alike] at h
theorem alikeAll_noDict : ∀ ds : List PyData, PySem.W.alikeAll ds ds = true → PyData.hasDictAll ds = false
  | [], _ => rfl
  | x :: xs, h => by
    rw [PySem.W.alikeAll, Bool.and_eq_true] at h
    rw [PyData.hasDictAll, alike_noDict x h.1, alikeAll_noDict xs h.2]; rfl
end
mutual
theorem nk_noDict : ∀ k : NestedKey, k.data.hasDict = false
  | .none => rfl
  | .num _ => rfl
  | .text _ => rfl
  | .tup ks => by rw [NestedKey.data, PyData.hasDict]; exact nks_noDict ks
theorem nks_noDict : ∀ ks : List NestedKey, PyData.hasDictAll (NestedKey.datas ks) = false
  | [] => rfl
  | k :: ks => by rw [NestedKey.datas, PyData.hasDictAll, nk_noDict k, nks_noDict ks]; rfl
end
def rReprD (K : PySem.W.Frag) : List V → Hp → VK → Prop := fun vs H Q => ∃ v d, vs = [v] ∧ Dp K H v d ∧ d.showable = true ∧ d.depth ≤ 64 ∧ d.shown.length ≤ sizeLine ∧ Q (.str d.shown) H
section
variable {X : Cx}
theorem call_reprD (hg : X.A.guards = some []) (hu : X.A.units + 100 < cLine) : CallR X (.builtin "repr") (rReprD X.K) := by
  intro pins s σ H vs us Q I r h
  obtain ⟨v, d, rfl, hd, hs, hdp, hz, q⟩ := h
  obtain ⟨u, rfl, rv⟩ := vals1 r
  have toRef : ∀ a : Addr, u = .ref a → wpAny (model X.prog X.w) X.A (call (.builtin "repr") [u]) (EP X pins σ Q) X.xe s := by
    intro a e
    obtain ⟨as, rd⟩ := Dp.reads I d v u (hd.l2 (dp_noDict hd hs)) rv
    subst e
    refine repr_of_reads' rd hs (PyData.noDict_hsm (dp_noDict hd hs)) hg (by omega) (fun _ _ e => e) ?_ hz
    intro h' t tk hk
    exact ⟨.str d.shown, H, I.kept hk, ⟨_, rfl⟩, q⟩
  cases hd with
  | non =>
    have e : u = Value.none := rv
    subst e
    exact PySem.P.repr_of_none ⟨.str "None", H, I.tok _, ⟨_, rfl⟩, q⟩
  | bl b =>
    have e : u = Value.bool b := rv
    subst e
    refine PySem.P.repr_of_bool ⟨.str (if b then "True" else "False"), H, I.tok _, ⟨_, rfl⟩, ?_⟩
    cases b <;> exact q
  | int i =>
    obtain ⟨t, e⟩ := rv
    subst e
    refine PySem.P.repr_of_int ?_ ⟨.str (toString i), H, I.tok _, ⟨_, rfl⟩, q⟩
    rw [PyData.showable] at hs
    exact of_decide_eq_true hs
  | str x =>
    obtain ⟨t, e⟩ := rv
    subst e
    exact PySem.P.repr_of_str ⟨.str (reprText x), H, I.tok _, ⟨_, rfl⟩, q⟩ hz
  | lst _ _ => exact toRef _ rv
  | tup _ _ => exact toRef _ rv
  | dct _ _ _ => exact toRef _ rv
end
section
variable {X : Cx} {ρ ρ' ρ1 ρ2 ρ3 : Env'} {a b c e : Expr} {es : List Expr} {r r1 r2 r3 : R} {pos p : Pos} {x : PyData} {xs : List PyData}
theorem de_repr (hgd : X.A.guards = some []) (hu : X.A.units + 100 < cLine) (hs : x.showable = true) (hd : x.depth ≤ 64) (hz : x.shown.length ≤ sizeLine) (hm : X.mg "repr" = none) (h : DE X ρ e (.d x) ρ1) (hg : Gl X "repr" := by rfl)
    (he : starEach [e] X.env = (false, eval e X.env) :: starEach [] X.env := by rfl) (hpl : (backTo pos (starEach [] X.env)).any (·.1) = false := by rfl) : DE X ρ (.Call (.Name "repr" p) [e] [] pos) (.d (.str x.shown)) ρ1 :=
  de_cB (r := .d x) (call_reprD hgd hu) (fun F Z B H σ Q v k w q => ⟨v, x, rfl, dp_mono k.exB w, hs, hd, hz, q _ B H k (Sub.refl B) (.str _)⟩) PyProof.Rows.boot_repr hm hg h (by decide) (by decide) he hpl
end

/-! ### sorted of data -/
theorem each_zip {K : PySem.W.Frag} {B : Hp} : ∀ {ds : List PyData} {xs : List V} {its : List Value}, DpAll K B xs ds → Vals xs its → (∀ d ∈ ds, d.hasDict = false) → PySem.W.EachIs (fun (v : Value) (b : V × PyData) => RelV b.1 v ∧ Dp K B b.1 b.2 ∧ b.2.hasDict = false) its (xs.zip ds)
  | _, _, _, .nil, r, _ => by cases r; exact .nil
  | _, _, _, .cons h t, r, n => by
    cases r with
    | cons r1 r2 => exact .cons ⟨r1, h, n _ List.mem_cons_self⟩ (each_zip t r2 fun d hd => n d (List.mem_cons_of_mem _ hd))
theorem zip_dp {K : PySem.W.Frag} {B : Hp} : ∀ {ds : List PyData} {xs : List V}, DpAll K B xs ds → ∀ p ∈ xs.zip ds, Dp K B p.1 p.2
  | _, _, .nil, p, hp => by simp at hp
  | _, _, .cons h t, p, hp => by
    rcases List.mem_cons.mp (by simpa using hp) with e | e
    · subst e; exact h
    · exact zip_dp t p e
open PySem.W in
def rSortD (K : PySem.W.Frag) : List V → Hp → VK → Prop := fun vs H Q => ∃ a xs ds, vs = [.ref a] ∧ SqL K H a xs ∧ DpAll K H xs ds ∧ AllAlike ds ∧ Sortable ds ∧ (∀ d ∈ ds, d.depth ≤ 64) ∧
  ∀ p, H p = none → Q (.ref p) (upd H p (.lst (((xs.zip ds).mergeSort (dataLe false Prod.snd)).map Prod.fst)))
section
variable {X : Cx}
open PySem.W in
theorem call_sortD (hu : X.A.units + 100 < cLine) : CallR X (.builtin "sorted") (rSortD X.K) := by
  intro pins s σ H vs us Q I r h
  obtain ⟨a, xs, ds, rfl, hq, hd, hal, hk, hdp, q⟩ := h
  obtain ⟨u, rfl, rv⟩ := vals1 r
  cases rv
  obtain ⟨its, rx, pl, hz⟩ := I.list hq
  have el := DpAll.length hd
  have ea := each_zip hd rx fun d h => alike_noDict d (hal d h d h)
  have em : (xs.zip ds).map Prod.snd = ds := List.map_snd_zip (by omega)
  have hl : (xs.zip ds).length = ds.length := by rw [List.length_zip]; omega
  refine sorted_data (enc := Prod.snd) pl.isList ea (ea.mono fun v b ⟨h1, h2, h3⟩ => Dp.reads I b.2 b.1 v (h2.l2 h3) h1) (by rw [em]; exact hal) (by rw [em]; exact hk) (by rw [hl, ← el]; exact hz) ?_ ?_
  · intro b hb
    have := hdp b.2 (by rw [← em]; exact List.mem_map.mpr ⟨b, hb, rfl⟩)
    omega
  · intro out h1 h2
    obtain ⟨ep, he'⟩ := PyProof.Rows.sortedAll_at s.heap its out.toArray
    have vo : ∀ {out : List Value} {bs : List (V × PyData)}, EachIs (fun (v : Value) (b : V × PyData) => RelV b.1 v ∧ Dp X.K H b.1 b.2) out bs → Vals (bs.map Prod.fst) out := by
      intro out bs h
      induction h with
      | nil => exact .nil
      | cons h t ih => exact .cons h.1 ih
    have v2 := vo (h2.mono fun _ _ z => ⟨z.1, z.2.1⟩)
    have hlen : (((xs.zip ds).mergeSort (dataLe false Prod.snd)).map Prod.fst).length ≤ sizeLine := by
      rw [List.length_map, List.length_mergeSort, hl, ← el]; exact hz
    exact ⟨.ref _, upd H (s.heap.objs.size + 1) (.lst (((xs.zip ds).mergeSort (dataLe false Prod.snd)).map Prod.fst)), I.laid (t' := s.toks) (fun _ _ => PyProof.Rows.sortedAll_old) (Nat.le_succ _) ⟨hlen, out, ep, v2, he'⟩, rfl, q _ (I.hok.fresh (Nat.le_succ _))⟩
end
/-- the data in order -/
def sortD (ds : List PyData) : List PyData := ds.mergeSort (PySem.W.dataLe false id)
theorem sortZip {K : PySem.W.Frag} {B : Hp} {xs : List V} {ds : List PyData} (h : DpAll K B xs ds) : DpAll K B (((xs.zip ds).mergeSort (PySem.W.dataLe false Prod.snd)).map Prod.fst) (sortD ds) := by
  have back : ∀ l : List (V × PyData), (∀ p ∈ l, Dp K B p.1 p.2) → DpAll K B (l.map Prod.fst) (l.map Prod.snd) := by
    intro l
    induction l with
    | nil => intro _; exact .nil
    | cons p l ih => intro hl; exact .cons (hl p List.mem_cons_self) (ih fun q hq => hl q (List.mem_cons_of_mem _ hq))
  have e : ((xs.zip ds).mergeSort (PySem.W.dataLe false Prod.snd)).map Prod.snd = sortD ds := by
    unfold sortD
    rw [PySem.W.sort_maps (r := PySem.W.dataLe false Prod.snd) (s := PySem.W.dataLe false id) Prod.snd (fun _ _ _ _ => rfl), List.map_snd_zip (by rw [DpAll.length h]; exact Nat.le_refl _)]
  rw [← e]
  exact back _ fun p hp => zip_dp h p ((List.mergeSort_perm _ _).mem_iff.mp hp)
section
variable {X : Cx} {ρ ρ' ρ1 ρ2 ρ3 : Env'} {a b c e : Expr} {es : List Expr} {r r1 r2 r3 : R} {pos p : Pos} {x : PyData} {xs : List PyData}
open PySem.W in
theorem dl_sorted (hu : X.A.units + 100 < cLine) (hal : AllAlike xs) (hk : Sortable xs) (hd : ∀ d ∈ xs, d.depth ≤ 64) (hq : RL ρ1 r xs) (hm : X.mg "sorted" = none) (h : DE X ρ e r ρ1) (hg : Gl X "sorted" := by rfl)
    (he : starEach [e] X.env = (false, eval e X.env) :: starEach [] X.env := by rfl) (hpl : (backTo pos (starEach [] X.env)).any (·.1) = false := by rfl) : DL X ρ (.Call (.Name "sorted" p) [e] [] pos) (sortD xs) ρ1 :=
  dl_cB (call_sortD hu) (fun F Z B H σ Q v k w q => by
    obtain ⟨p, vs, e, s, t⟩ := hq.at k w
    exact ⟨p, vs, xs, congrArg (fun z => [z]) e, s, dpAll_mono k.exB t, hal, hk, hd, fun l hl => q l _ B _ (k.loose hl _) (Sub.refl B) (k.laid hl _) upd_same (sortZip t)⟩) PyProof.Rows.boot_sorted hm hg h (by decide) (by decide) he hpl
end

/-! ### dicts whose keys are tuples -/
mutual
theorem nested_of_reads {h : Heap} : ∀ (k : NestedKey) (v : Value) (as : List Addr), Reads h v k.data as → NestedIs h k v ∧ as = []
  | .none, _, _, r => by rw [NestedKey.data] at r; cases r; exact ⟨.none, rfl⟩
  | .num i, _, _, r => by rw [NestedKey.data] at r; cases r; exact ⟨.int _ _, rfl⟩
  | .text x, _, _, r => by rw [NestedKey.data] at r; cases r; exact ⟨.text _ _, rfl⟩
  | .tup ks, _, _, r => by
    rw [NestedKey.data] at r
    cases r with
    | tuple h1 h2 h3 h4 =>
      obtain ⟨q1, q2⟩ := nestedAll_of_reads ks _ _ h4
      exact ⟨.tup h1 h2 h3 q1, q2⟩
theorem nestedAll_of_reads {h : Heap} : ∀ (ks : List NestedKey) (vs : List Value) (as : List Addr), ReadsAll h vs (NestedKey.datas ks) as → NestedAll h ks vs ∧ as = []
  | [], _, _, r => by rw [NestedKey.datas] at r; cases r; exact ⟨.nil, rfl⟩
  | k :: ks, _, _, r => by
    rw [NestedKey.datas] at r
    cases r with
    | cons r1 r2 =>
      obtain ⟨q1, e1⟩ := nested_of_reads k _ _ r1
      obtain ⟨q2, e2⟩ := nestedAll_of_reads ks _ _ r2
      exact ⟨.cons q1 q2, by rw [e1, e2]; rfl⟩
end
section
variable {X : Cx} {pins : List (Addr × Obj)} {σ : L2.St} {H B : Hp} {s : Shared} {a ka : Addr} {xs : List (NestedKey × Addr × Value)} {kvs : List (NestedKey × PyData)} {k : NestedKey}
theorem key_is (I : Inv X pins σ H s) (h : Dp X.K H (.ref ka) k.data) (hd : k.depth ≤ 8) : (nestedKind X.prog X.w).is s.heap k ka := by
  obtain ⟨as, rd⟩ := Dp.reads I _ _ (.ref ka) (h.l2 (nk_noDict k)) rfl
  exact ⟨(nested_of_reads k _ _ rd).1, hd⟩
theorem dn_of (I : Inv X pins σ H s) (h : H a = some (dnHO X.w a xs)) (hk : ∀ x ∈ xs, Dp X.K H (.ref x.2.1) x.1.data ∧ x.1.depth ≤ 8) (nd : (xs.map (·.1)).Nodup) : s.heap.DictOfH (nestedKind X.prog X.w) a xs := by
  obtain ⟨⟨o, es, ep, h1, h2, h3, h4⟩, _, _⟩ := I.hok a _ h
  exact ⟨o, es, ep, h1, h2, h3, h4, fun x hx => key_is I (hk x hx).1 (hk x hx).2, nd⟩
theorem dn_ok {h : Heap} {H' : Hp} {P : Program} {w : World} (m : h.DictOfH (nestedKind P w) a xs) : ObjOk P w H' h a (dnHO w a xs) := by
  obtain ⟨o, es, ep, h1, h2, h3, h4, _, _⟩ := m
  refine ⟨⟨o, es, ep, h1, h2, h3, h4⟩, ⟨o, h1⟩, fun g1 g2 ⟨o, es, ep, q1, q2, q3, q4⟩ hk => ⟨o, es, ep, hk o q1, q2, q3, q4⟩⟩
theorem nk_keys : ∀ {xs : List (NestedKey × Addr × Value)} {kvs : List (NestedKey × PyData)}, NkAll X.K B xs kvs → ∀ x ∈ xs, Dp X.K B (.ref x.2.1) x.1.data ∧ x.1.depth ≤ 8
  | _, _, .cons h1 h2 _ _ t, x, hx => by
    rcases List.mem_cons.mp hx with e | hx
    · subst e; exact ⟨h1, h2⟩
    · exact nk_keys t x hx
/-- a store -/
theorem dn_set {v : V} {u : Value} {A' : Value → Shared → Prop} {Q : Unit → Shared → Prop} (hu : X.A.units + 100 < cLine) (I : Inv X pins σ H s) (h : H a = some (dnHO X.w a xs)) (hk : ∀ x ∈ xs, Dp X.K H (.ref x.2.1) x.1.data ∧ x.1.depth ≤ 8) (nd : (xs.map (·.1)).Nodup)
    (hz : xs.length ≤ 1000000) (hkey : Dp X.K H (.ref ka) k.data) (hd : k.depth ≤ 8) (q : ∀ s', Inv X pins σ (upd H a (dnHO X.w a (storedH xs k ka u))) s' → Q () s') : wpAny (model X.prog X.w) X.A (setItem (.ref a) (.ref ka) u) Q A' s := by
  refine wpAny_setItem_heap (knd := nestedKind X.prog X.w) (by show X.A.units + 1 + 8 < cLine; omega) (key_is I hkey hd) (dn_of I h hk nd) (fun h' m' hs => ?_) (by rw [sizeLine_eq]; omega)
  obtain ⟨o, ho⟩ : ∃ o, h'.get? a = some o := by obtain ⟨o, _, _, ho, _⟩ := m'; exact ⟨o, ho⟩
  exact q _ (I.write (e := a) (o := dnHO X.w a (storedH xs k ka u)) (by rw [h]; trivial) (.inl rfl) (fun b u hb e => (hs.2 b hb).trans e) ⟨o, ho⟩ (dn_ok m'))
end
/-- the entries behind a store, as data -/
def putN (kvs : List (NestedKey × PyData)) (k : NestedKey) (d : PyData) : List (NestedKey × PyData) :=
  if k ∈ kvs.map (·.1) then kvs.map fun x => if x.1 = k then (x.1, d) else x else kvs ++ [(k, d)]
section
variable {K : PySem.W.Frag} {B : Hp} {xs : List (NestedKey × Addr × Value)} {kvs : List (NestedKey × PyData)} {k : NestedKey} {ka : Addr} {u : Value} {v : V} {d : PyData}
theorem nk_fst : ∀ {xs : List (NestedKey × Addr × Value)} {kvs : List (NestedKey × PyData)}, NkAll K B xs kvs → xs.map (·.1) = kvs.map (·.1)
  | _, _, .nil => rfl
  | _, _, .cons _ _ _ _ t => by rw [List.map_cons, List.map_cons, nk_fst t]
theorem NkAll.append : ∀ {xs : List (NestedKey × Addr × Value)} {kvs : List (NestedKey × PyData)} {ys : List (NestedKey × Addr × Value)} {kws : List (NestedKey × PyData)}, NkAll K B xs kvs → NkAll K B ys kws → NkAll K B (xs ++ ys) (kvs ++ kws)
  | _, _, _, _, .nil, s => s
  | _, _, _, _, .cons h1 h2 h3 h4 t, s => .cons h1 h2 h3 h4 (NkAll.append t s)
theorem atKey_iff (xs : List (NestedKey × Addr × Value)) (k : NestedKey) : (atKey xs k).isSome = true ↔ k ∈ xs.map (·.1) := by
  unfold atKey
  rw [Option.isSome_map, List.find?_isSome]
  simp only [decide_eq_true_eq, List.mem_map]
theorem nk_put (t : NkAll K B xs kvs) (h1 : Dp K B (.ref ka) k.data) (h2 : k.depth ≤ 8) (h3 : RelV v u) (h4 : Dp K B v d) : NkAll K B (storedH xs k ka u) (putN kvs k d) := by
  unfold storedH putN
  rw [← nk_fst t]
  by_cases m : k ∈ xs.map (·.1)
  · rw [if_pos ((atKey_iff xs k).mpr m), if_pos m]
    clear m
    induction t with
    | nil => exact .nil
    | @cons k0 a0 u0 v0 d0 r s g1 g2 g3 g4 t ih =>
      rw [List.map_cons, List.map_cons]
      unfold putAt
      by_cases e : k0 = k
      · rw [if_pos e, if_pos e]; exact .cons g1 g2 h3 h4 ih
      · rw [if_neg e, if_neg e]; exact .cons g1 g2 g3 g4 ih
  · rw [if_neg fun z => m ((atKey_iff xs k).mp z), if_neg m]
    exact NkAll.append t (.cons h1 h2 h3 h4 .nil)
theorem storedH_keys : ((storedH xs k ka u).map (·.1)) = if k ∈ xs.map (·.1) then xs.map (·.1) else xs.map (·.1) ++ [k] := by
  unfold storedH
  by_cases m : k ∈ xs.map (·.1)
  · rw [if_pos ((atKey_iff xs k).mpr m), if_pos m, List.map_map]
    refine List.map_congr_left fun x _ => ?_
    show (putAt k u x).1 = x.1
    unfold putAt
    split <;> rfl
  · rw [if_neg fun z => m ((atKey_iff xs k).mp z), if_neg m, List.map_append]; rfl
theorem storedH_nodup (nd : (xs.map (·.1)).Nodup) : ((storedH xs k ka u).map (·.1)).Nodup := by
  rw [storedH_keys]
  split
  · exact nd
  · rename_i m
    exact List.nodup_append.mpr ⟨nd, by simp, fun x hx y hy e => m (by rw [List.mem_singleton] at hy; rw [← hy, ← e]; exact hx)⟩
theorem storedH_len : (storedH xs k ka u).length ≤ xs.length + 1 := by
  unfold storedH
  split <;> simp
end
section
variable {X : Cx} {ρ ρ' ρ1 ρ2 ρ3 : Env'} {a b c e : Expr} {es : List Expr} {r r1 r2 r3 : R} {pos p : Pos} {x : PyData} {xs : List PyData}
/-- x = {} -/
theorem ds_newDn {i : Nat} {x : Str} {pos' dpos : Pos} {s0 : Sl} (hN : X.N.Nodup) (hr : ρ[i]? = some s0 := by rfl) (hi : X.N[i]? = some x := by rfl) (hx : Loc X.env.scope x := by first | exact Or.inl rfl | exact Or.inr rfl) (hs : swapsWith (.Dict [] [] dpos) (some (.Name x pos')) pos.line X.env = pure false := by rfl)
    (hf : X.fn x = true ∨ X.env.scope.names.lookup x = some .local := by first | exact .inl rfl | exact .inr rfl) : DS X ρ (.Assign [.Name x pos'] (.Dict [] [] dpos) pos) (.nx (ρ.set i (.o (.dn X.w [])))) := fun F Z B H σ D k q => by
  have pd : PE X (.Dict [] [] dpos) (fun σ H Q => ∀ d, H d = none → (d == sysModules) = false → Q (.ref d) (upd H d (dnHO X.w d []))) := ⟨fun pins s σ H Q I h => by
    have big : (s.heap.objs.size == sysModules) = false := beq_eq_false_iff_ne.mpr (Ne.symm (Nat.ne_of_lt I.big))
    refine wpAny_Dict_empty ⟨.ref s.heap.objs.size, _, I.laid (a := s.heap.objs.size) (o := dnHO X.w s.heap.objs.size []) (t' := s.toks) (fun _ _ q => Heap.get?_push_of_some _ q) (Nat.le_refl _) (dn_ok (P := X.prog) (Heap.DictOfH.new s.heap)), rfl, h _ (I.hok.fresh (Nat.le_refl _)) big⟩⟩
  exact ⟨_, ps_set hN hi hx pd hs hf, fun d hd hsy => q B _ _ ((k.loose hd _).take (k.laid hd _) (List.getElem?_eq_some_iff.mp hr).1 (.dn upd_same hsy (by simp) (by simp) .nil)) (Sub.refl B)⟩
/-- d[k] = v, d of our own, k a tuple -/
theorem ds_dnSet {i : Nat} {kvs : List (NestedKey × PyData)} {k : NestedKey} {y : PyData} {pos' : Pos} (hu : X.A.units + 100 < cLine) (hd : k.depth ≤ 8) (hz : kvs.length < 1000000) (hv : DE X ρ e (.d y) ρ1) (ho : DE X ρ1 a (.o i) ρ2) (hk : DE X ρ2 b (.d k.data) ρ3) (ht : ∃ ks, k = .tup ks)
    (hs3 : ρ3[i]? = some (.o (.dn X.w kvs)) := by rfl)
    (ha : ∀ v, assign (.Subscript a b pos') X.env v = (do
      let ov ← holding [v] (eval a X.env)
      let iv ← holding [v, ov] (eval b X.env)
      standAt pos'
      holding [v, ov, iv] (setItem ov iv v)
      release [v, ov, iv] []) := by intro _; rfl) (hs : swapsWithSole [.Subscript a b pos'] e pos.line X.env = pure false := by rfl) (hw : swappedStores [.Subscript a b pos'] e X.env = pure none := by rfl)
    (h1 : (assignEach [.Subscript a b pos'] X.env).map (·.2) = [assign (.Subscript a b pos') X.env] := by rfl) : DS X ρ (.Assign [.Subscript a b pos'] e pos) (.nx (ρ3.set i (.o (.dn X.w (putN kvs k y))))) := fun F Z B H σ D kk q => by
  obtain ⟨ks, rfl⟩ := ht
  -- the store, by values
  have hp : PSet X (fun o iv v H Q => ∃ a ka xs, o = .ref a ∧ iv = .ref ka ∧ H a = some (dnHO X.w a xs) ∧ (∀ x ∈ xs, Dp X.K H (.ref x.2.1) x.1.data ∧ x.1.depth ≤ 8) ∧ (xs.map (·.1)).Nodup ∧ xs.length ≤ 1000000 ∧ Dp X.K H (.ref ka) (NestedKey.tup ks).data ∧
      ∀ u, RelV v u → Q (upd H a (dnHO X.w a (storedH xs (.tup ks) ka u)))) := by
    rintro pins s σ H o iv v ov ivv u Q I ro ri rv ⟨a, ka, xs, rfl, rfl, g1, g2, g3, g4, g5, g6⟩
    cases ro; cases ri
    exact dn_set (v := v) hu I g1 g2 g3 g4 g5 hd fun s' I' => ⟨_, I', g6 u rv⟩
  refine ⟨_, ps_asg pe_s (pg_sub pe_s pe_s hp ha) hs hw h1, hv F Z B H σ _ kk fun v B1 H1 k1 x1 w1 => ho F Z B1 H1 σ _ k1 fun o B2 H2 k2 x2 w2 => hk F Z B2 H2 σ _ k2 fun iv B3 H3 k3 x3 w3 => ?_⟩
  obtain ⟨v', as, g1, g2, g3⟩ := k3.ob (gS_some hs3)
  have w' : gV σ i = some o := w2
  rw [w'] at g1
  cases g1
  have dk : Dp X.K B3 iv (.tuple (NestedKey.datas ks)) := w3
  cases g2 with
  | @dn _ aa xs _ d1 d2 d3 d4 d5 =>
  have e3 : ∃ ka, iv = .ref ka := by cases dk; exact ⟨_, rfl⟩
  obtain ⟨ka, rfl⟩ := e3
  refine ⟨aa, ka, xs, rfl, rfl, d1, fun x hx => ⟨dp_mono k3.exB (nk_keys d5 x hx).1, (nk_keys d5 x hx).2⟩, d4, d3, dp_mono k3.exB dk, fun u ru => ?_⟩
  have hl : (storedH xs (.tup ks) ka u).length ≤ 1000000 := Nat.le_trans storedH_len (by rw [d5.length]; exact hz)
  refine q B3 _ σ (k3.turn (gS_some hs3) w' (.dn d1 d2 d3 d4 d5) (.dn upd_same d2 hl (storedH_nodup d4) (nk_put d5 dk hd ru (dp_mono (x2.trans x3) w1))) fun c hc => ?_) ((x1.trans x2).trans x3)
  rw [upd_ne fun z => hc (by rw [z]; exact List.mem_singleton.mpr rfl)]
end
end G

set_option Elab.async false
set_option linter.all false
set_option maxRecDepth 100000
set_option maxHeartbeats 4000000
/- enumerate of a tuple; sorted of a dict with tuple keys; dict comprehensions with tuple keys -/
namespace G
open PySem L2 PySem.Spec PyProof.Rows

/-! ### enumerate(tuple) -/
open PySem.AutoSeq1 (wpAny_loadPart') in
theorem enumT_new (l : Addr) (items : Array Value) (n : Nat) (dct : Option Addr) (sl : Array (Option Value)) :
    Meets (Builtin.«enumerate.__new__» ⟨[.type "enumerate", .ref l], []⟩) (fun _ R s => s.heap.get? l = some { cls := .type "tuple", dict := dct, data := .seq items n, slots := sl } ∧
      R (.ok (.ret (.ref (s.heap.push { cls := .type "tuple_iterator", data := .fields #[.ref l, .int 0 0] }).objs.size)))
        { s with heap := (s.heap.push { cls := .type "tuple_iterator", data := .fields #[.ref l, .int 0 0] }).push { cls := .type "enumerate", data := .fields #[.none, .bool false, .ref s.heap.objs.size, rawInt 0, .none, .none] } }) :=
  .of_wp fun prog w A R s h => by
    obtain ⟨hp, g, d, tk, os⟩ := s
    obtain ⟨hl, h⟩ := h
    have hsub := sub_enumerate
    have hT : Heap.IsTuple (Shared.heap ⟨hp, g, d, tk, os⟩) l items := ⟨_, hl, rfl, n, rfl⟩
    wp_walk using wpAny_loadPart' hl
    refine wpAny_stack_any fun st => wpAny_pure ?_
    split
    · rename_i c _ _ _ _ _
      cases (c == Value.type "enumerate")
      · wp_walk using wpAny_loadPart' hl, wpAny_pyIter_tuple hT
        exact ⟨_, rfl, h⟩
      · wp_walk using wpAny_loadPart' hl, wpAny_pyIter_tuple hT
        exact ⟨_, rfl, h⟩
    · wp_walk using wpAny_loadPart' hl, wpAny_pyIter_tuple hT
      exact ⟨_, rfl, h⟩
theorem call_enumT {prog : Program} {w : World} {A : Around} {E : Value → Shared → Prop} {s : Shared} {l : Addr} {items : Array Value} {Q : Value → Shared → Prop} (hT : IsTup s.heap l items)
    (h : ∀ h', IsEnum h' (s.heap.objs.size + 1) s.heap.objs.size 0 .none → h'.IsTupleIter s.heap.objs.size l 0 → (∀ b o, s.heap.get? b = some o → h'.get? b = some o) → Q (.ref (s.heap.objs.size + 1)) { s with heap := h' }) :
    wpAny (model prog w) A (call (.type "enumerate") [.ref l]) Q E s := by
  obtain ⟨⟨c, dct, dt, sl⟩, hl, hc, n, hd⟩ := hT
  replace hc : c = .type "tuple" := hc
  replace hd : dt = .seq items n := hd
  subst hc hd
  refine callType_new F.called_enumerate (by decide) (F.typeCall_enumerate_1 _) (F.newCall_enumerate_1 _) (fun obj => F.args_object_init_2 obj _) F.entry_enumerate_new (enumT_new l items n dct sl) ⟨hl, ?_⟩
  have hz : (s.heap.push { cls := .type "tuple_iterator", data := .fields #[.ref l, .int 0 0] }).objs.size = s.heap.objs.size + 1 := Heap.size_push ..
  show _ ∧ _
  rw [hz]
  have he : IsEnum ((s.heap.push { cls := .type "tuple_iterator", data := .fields #[.ref l, .int 0 0] }).push { cls := .type "enumerate", data := .fields #[.none, .bool false, .ref s.heap.objs.size, rawInt 0, .none, .none] })
      (s.heap.objs.size + 1) s.heap.objs.size 0 .none := by
    have q := Heap.get?_push_size (s.heap.push { cls := .type "tuple_iterator", data := .fields #[.ref l, .int 0 0] }) (o := { cls := .type "enumerate", data := .fields #[.none, .bool false, .ref s.heap.objs.size, rawInt 0, .none, .none] }) rfl
    rw [hz] at q
    exact q
  exact ⟨⟨_, he, rfl⟩, h _ he ⟨_, Heap.get?_push_of_some _ (Heap.get?_push_size _ rfl), rfl, rfl⟩ fun b o x => Heap.get?_push_of_some _ (Heap.get?_push_of_some _ x)⟩
/-- the tuple at a, each item in a new pair -/
def ItEt (K : PySem.W.Frag) (a : Addr) : It :=
  ⟨fun i H => ∃ (xs : List V) (x : V), SqT K H a xs ∧ xs[i]? = some x, fun i H v H' => ∃ T x o, v = .ref T ∧ H T = none ∧ H' = upd H T (.frz o (.tup [.int (i : Nat), x])) ∧ o.dict = none ∧ o.cls = .type "tuple" ∧ ∀ xs, SqT K H a xs → xs[i]? = some x, fun i H => ∃ xs : List V, SqT K H a xs ∧ xs.length = i⟩
theorem turn_enumT {P : Program} {w : World} {K : PySem.W.Frag} {elts : List Expr} {kk : Nat} {tpos : Pos} (a e it : Addr) :
    Turn P w K (.Tuple elts kk tpos) (ItEt K a) [e, it] e (fun i h => (∃ old, IsEnum h e it ((i : Nat) : Int) old) ∧ h.IsTupleIter it a i ∧ e ≠ it) where
  mem := by simp
  obj := by
    rintro i h ⟨⟨old, he⟩, ⟨o, ho, hc, hd⟩, _⟩ b hb
    rcases (show b = e ∨ b = it by simpa using hb) with z | z
    · rw [z]; exact ⟨_, he, fun v q => nomatch q⟩
    · rw [z]; exact ⟨o, ho, fun v q => by rw [hd] at q; cases q⟩
  keep := by
    rintro i h h' ⟨⟨old, he⟩, hi, hne⟩ k
    exact ⟨⟨old, k e (by simp) _ he⟩, hi.at fun o q => k it (by simp) o q, hne⟩
  item := by
    intro X hP hw hK hc i pins s σ H E I hf st hg
    subst hP hw hK
    obtain ⟨⟨old, he⟩, hit, hne⟩ := st
    obtain ⟨xs, x, hq, hx⟩ := hg
    obtain ⟨its, rv, p, hz⟩ := I.tuple hq
    obtain ⟨u, hu, ru⟩ := rv.get hx
    have hel : e < s.heap.objs.size := Heap.lt_size he
    have hil : it < s.heap.objs.size := by obtain ⟨_, q, _⟩ := hit; exact Heap.lt_size q
    have nai : a ≠ it := by
      intro z
      obtain ⟨o1, q1, c1, _⟩ := p
      obtain ⟨o2, q2, c2, _⟩ := hit
      rw [z, q2] at q1
      cases q1
      rw [c2] at c1
      exact absurd (Value.type.inj c1) (by decide)
    have nea : e ≠ a := by
      intro z
      obtain ⟨o1, q1, c1, _⟩ := p
      rw [← z, show s.heap.get? e = _ from he] at q1
      cases q1
      exact absurd (Value.type.inj c1) (by decide)
    have hlt : i < its.toArray.size := by
      rw [List.size_toArray]
      exact (List.getElem?_eq_some_iff.mp hu).1
    refine wpAny_pyNext_enum_itemC (fp := [it, a]) (Draws.tuple (A := X.A.in1) (I.ok.hd hc) it a nai its.toArray) he ⟨hit, p⟩ hlt hne (by simp [hne, nea]) ?_
    intro y h' tk hy ho hst hT hsz hk
    have eyu : y = u := by
      have q : its[i]? = some y := by simpa using hy
      rw [hu] at q; exact (Option.some.inj q).symm
    subst eyu
    refine ⟨_, rfl, wpAny_letOwnedTupleGo_enum (s := { s with heap := h', toks := tk + 1 }) ho ?_⟩
    intro h'' he' sb
    have hT2 : h''.get? s.heap.objs.size = some { cls := .type "tuple", data := .seq #[.int i tk, y] } := (sb.2 _ (Nat.ne_of_gt hel)).trans hT
    have new : ObjOk X.prog X.w (upd H s.heap.objs.size (.frz { cls := .type "tuple", data := .seq #[.int i tk, y] } (.tup [.int (i : Nat), x]))) h'' s.heap.objs.size (.frz { cls := .type "tuple", data := .seq #[.int i tk, y] } (.tup [.int (i : Nat), x])) :=
      ⟨hT2, by show 2 ≤ sizeLine; decide, [.int i tk, y], .cons ⟨_, rfl⟩ (.cons ru .nil), ⟨_, hT2, rfl, _, rfl⟩⟩
    have I1 : Inv X pins σ (upd H s.heap.objs.size (.frz { cls := .type "tuple", data := .seq #[.int i tk, y] } (.tup [.int (i : Nat), x]))) { s with heap := h'', toks := tk + 1 } :=
      I.turnedNew (ch := [e, it]) (fun b ob hb q => (sb.2 b (fun z => hb (by simp [z]))).trans (hk b ob (fun z => hb (by simp [z])) (fun z => hb (by simp [z])) q)) hf (Nat.le_refl _) new
    refine ⟨.ref s.heap.objs.size, _, I1, rfl, ⟨_, x, _, rfl, I.hok.fresh (Nat.le_refl _), rfl, rfl, rfl, fun ys hy => by rw [I.tuple_inj hy hq]; exact hx⟩, ⟨⟨y, ?_⟩, hst.1.at fun o q => (sb.2 it (Ne.symm hne)).trans q, hne⟩, ?_⟩
    · have e1 : ((i + 1 : Nat) : Int) = (i : Int) + 1 := by omega
      rw [e1]; exact he'
    · intro b hb
      have hb' : b < s.heap.objs.size := by
        rcases (show b = e ∨ b = it by simpa using hb) with z | z
        · rw [z]; exact hel
        · rw [z]; exact hil
      rw [upd_ne (Nat.ne_of_lt hb')]
      exact (hf b hb).1
  done := by
    intro X hP hw hK hc i pins s σ H E I hf st hg
    subst hP hw hK
    obtain ⟨⟨old, he⟩, hit, hne⟩ := st
    obtain ⟨xs, hq, hx⟩ := hg
    obtain ⟨its, rv, p, hz⟩ := I.tuple hq
    have nai : a ≠ it := by
      intro z
      obtain ⟨o1, q1, c1, _⟩ := p
      obtain ⟨o2, q2, c2, _⟩ := hit
      rw [z, q2] at q1
      cases q1
      rw [c2] at c1
      exact absurd (Value.type.inj c1) (by decide)
    obtain ⟨f0, f1, f2, f3, f4, f5⟩ := hf it (by simp)
    have hl := rv.length
    have D := Draws.tuple (prog := X.prog) (w := X.w) (A := X.A.in1) (I.ok.hd hc) it a nai its.toArray
    have hlen : i = its.toArray.size := by rw [List.size_toArray, ← hl, hx]
    exact wpAny_pyNext_enum_endD D he (by rw [← hlen]; exact ⟨hit, p⟩) fun h' eb => ⟨rfl, I.turned (t' := s.toks) (fun b o hb q => eb b o hb q) f0 f1 f3 f4 f5⟩
  self := by
    rintro A i s Q E ⟨⟨_, he⟩, _⟩ h
    exact wpAny_pyIter_enum he h
def iEnumT (K : PySem.W.Frag) (ta : TA) : TI := fun σ H R => ta σ H fun vs H1 => ∃ a xs, vs = [.ref a] ∧ SqT K H1 a xs ∧ R (ItEt K a) H1
theorem pi_enumT {X : Cx} {e : Expr} {ta : TA} {p pos tpos : Pos} {elts : List Expr} {kk : Nat} (hg : Gl X "enumerate") (hm : X.mg "enumerate" = none) (ha : PA X [e] ta) (hs : starEach [e] X.env = [(false, eval e X.env)] := by rfl) :
    PI X (.Tuple elts kk tpos) (.Call (.Name "enumerate" p) [e] [] pos) (iEnumT X.K ta) := by
  constructor
  intro pins s σ H R I h
  refine Call_ (ld_blt I hg hm boot_enumerate (PyProof.Rows.callWith_type1 (thn (ha.run pos pins s σ H _ I h) ?_) hs rfl))
  rintro us s1 ⟨vs, H1, I1, r1, a, xs, ex, hq, q⟩
  subst ex
  cases r1 with
  | cons r rr =>
    cases rr
    cases r
    obtain ⟨its, rv, p', hz⟩ := I1.tuple hq
    refine call_enumT p' fun h' he hit hk => wpAny_pyIter_enum he ?_
    have I2 : Inv X pins σ H1 { s1 with heap := h' } := I1.kept (t' := s1.toks) hk
    refine ⟨s1.heap.objs.size + 1, [s1.heap.objs.size + 1, s1.heap.objs.size], _, _, H1, rfl, I2, turn_enumT a (s1.heap.objs.size + 1) s1.heap.objs.size, ⟨⟨.none, he⟩, hit, Nat.succ_ne_self _⟩, fun b hb => ?_, q⟩
    have hle : s1.heap.objs.size ≤ b := by
      rcases (show b = s1.heap.objs.size + 1 ∨ b = s1.heap.objs.size by simpa using hb) with z | z
      · rw [z]; exact Nat.le_add_right _ _
      · rw [z]; exact Nat.le_refl _
    exact I1.fpOk hle (I1.hok.fresh hle)
/-- a new pair of the i-th of xs and the i-th of ys, no dict at it -/
def YPairN (xs ys : Nat → Option V) : Nat → Hp → V → Hp → Prop := fun i H v H' => ∃ T x y o, v = .ref T ∧ H T = none ∧ H' = upd H T (.frz o (.tup [x, y])) ∧ o.dict = none ∧ o.cls = .type "tuple" ∧ xs i = some x ∧ ys i = some y
theorem walk_enumT {K : PySem.W.Frag} {a : Addr} {xs : List V} : Walk (ItEt K a) xs.length (fun H => SqT K H a xs) (YPairN (fun i => some (.int (i : Nat))) (fun i => xs[i]?)) := by
  refine ⟨fun i _ hi q => ⟨xs, xs[i], q, by simp [hi]⟩, fun _ q => ⟨xs, q, rfl⟩, ?_⟩
  rintro i H v H' _ q ⟨T, x, o, h1, h2, h3, h5, h6, h4⟩
  exact ⟨T, .int (i : Nat), x, o, h1, h2, h3, h5, h6, rfl, h4 xs q⟩
/-- the pairs of place and item -/
def pairsD (xs : List PyData) : List PyData := (List.range xs.length).map fun (i : Nat) => .tuple [.int (i : Int), xs.getD i .none]
theorem pairsD_at {xs : List PyData} {i : Nat} {x : PyData} (h : xs[i]? = some x) : (pairsD xs)[i]? = some (.tuple [.int (i : Int), x]) := by
  have hi : i < xs.length := (List.getElem?_eq_some_iff.mp h).1
  unfold pairsD
  rw [List.getElem?_map, List.getElem?_range hi]
  show some (PyData.tuple [.int (i : Int), xs.getD i .none]) = _
  rw [List.getD_eq_getElem?_getD, h]; rfl
theorem pairsD_len {xs : List PyData} : (pairsD xs).length = xs.length := by unfold pairsD; simp
theorem di_enumT {X : Cx} {ρ ρ1 : Env'} {e : Expr} {p pos tpos : Pos} {elts : List Expr} {kk : Nat} {xs : List PyData} (hm : X.mg "enumerate" = none) (h : DE X ρ e (.d (.tuple xs)) ρ1) (hg : Gl X "enumerate" := by rfl) (hs : starEach [e] X.env = [(false, eval e X.env)] := by rfl)
    (he : starEach [e] X.env = (false, eval e X.env) :: starEach [] X.env := by rfl) : DI X ρ (.Tuple elts kk tpos) (.Call (.Name "enumerate" p) [e] [] pos) (pairsD xs) ρ1 := fun F Z B H σ Q k q =>
  ⟨_, pi_enumT hg hm (pa_cons pe_s pa_nil he) hs, h F Z B H σ _ k fun v B1 H1 k1 x1 w => by
    obtain ⟨a, vs, rfl, s, s', t⟩ := tup_at k1 w
    refine ⟨a, vs, rfl, s, q _ _ _ _ B1 H1 k1 x1 (by rw [pairsD_len]; exact DpAll.length t) walk_enumT (fun B2 H2 y1 y2 => s'.1.imp (y1.trans y2).rd id) ?_⟩
    rintro F2 Z2 B2 H2 σ2 ρ2 i v H3 k2 y2 hi ⟨T, x, y, o, rfl, hT, rfl, od, oc, hx, hy⟩
    obtain rfl : V.int (i : Nat) = x := Option.some.inj hx
    obtain ⟨d, h1, h2⟩ := DpAll.get t hy
    have n := k2.fresh hT
    exact ⟨_, _, pairsD_at h1, k2.new hT _, Sub.new _ n.2.1, .tup (.inl (.inr ⟨o, upd_same⟩)) ⟨o, _, upd_same, od, oc⟩ (dpAll_mono (Sub.new _ n.2.1) (.cons (.int _) (.cons (dp_mono y2 h2) .nil)))⟩⟩

/-! ### sorted(d), d a dict whose keys are tuples -/
open PySem.W in
def rSortDn (K : PySem.W.Frag) (w : World) : List V → Hp → VK → Prop := fun vs H Q => ∃ a xs, vs = [.ref a] ∧ H a = some (dnHO w a xs) ∧ (a == sysModules) = false ∧ xs.length ≤ 1000000 ∧ (∀ x ∈ xs, Dp K H (.ref x.2.1) x.1.data ∧ x.1.depth ≤ 8) ∧
  AllAlike (xs.map fun x => x.1.data) ∧ Sortable (xs.map fun x => x.1.data) ∧
  ∀ p, H p = none → Q (.ref p) (upd H p (.lst ((xs.mergeSort (dataLe false fun x => x.1.data)).map fun x => .ref x.2.1)))
theorem nk_depth : ∀ k : NestedKey, k.data.depth = k.depth := by
  have both : ∀ n : Nat, (∀ k : NestedKey, sizeOf k ≤ n → k.data.depth = k.depth) ∧ (∀ ks : List NestedKey, sizeOf ks ≤ n → PyData.depthAll (NestedKey.datas ks) = NestedKey.depthAll ks) := by
    intro n
    induction n with
    | zero =>
      refine ⟨fun k h => ?_, fun ks h => ?_⟩
      · cases k <;> simp at h
      · cases ks <;> simp at h
    | succ n ih =>
      refine ⟨fun k h => ?_, fun ks h => ?_⟩
      · cases k with
        | none => simp [NestedKey.data, PyData.depth, NestedKey.depth]
        | num i => simp [NestedKey.data, PyData.depth, NestedKey.depth]
        | text x => simp [NestedKey.data, PyData.depth, NestedKey.depth]
        | tup ks =>
          simp only [NestedKey.data, PyData.depth, NestedKey.depth]
          rw [ih.2 ks (by simp at h; omega)]
      · cases ks with
        | nil => simp [NestedKey.datas, PyData.depthAll, NestedKey.depthAll]
        | cons k ks =>
          simp only [NestedKey.datas, PyData.depthAll, NestedKey.depthAll]
          rw [ih.1 k (by simp at h; omega), ih.2 ks (by simp at h; omega)]
  exact fun k => (both (sizeOf k)).1 k (Nat.le_refl _)
section
variable {X : Cx}
open PySem.W in
theorem call_sortDn (hc : X.calm = true) (hu : X.A.units + 100 < cLine) : CallR X (.builtin "sorted") (rSortDn X.K X.w) := by
  intro pins s σ H vs us Q I r h
  obtain ⟨a, xs, rfl, hH, hsy, hz, hk, hal, hso, q⟩ := h
  obtain ⟨u, rfl, rv⟩ := vals1 r
  cases rv
  obtain ⟨⟨o, es, ep, g1, g2, g3, g4⟩, _, _⟩ := I.hok a _ hH
  have raw : s.heap.DictRaw a es ep := ⟨o, g1, g2, g3⟩
  have esz : es.size = xs.length := by
    have e := congrArg List.length g4
    simpa using e
  have hsl : sizeLine = 16777216 := sizeLine_eq
  refine Calls.call_function_entry PyProof.Rows.kind_sorted PyProof.Rows.plain_sorted PyProof.Rows.entry_sorted (PyProof.Rows.args_sorted1 _) ?_
  unfold Builtin.«sorted»
  refine wpAny_bind (m := checkCount "sorted" 1 1 _) (wpAny_pure ?_)
  refine wpAny_bind (kdu_collect (A := X.A.in1) (KdlSrc.rawDict hsy) (I.ok.hd hc) raw (by omega) ?_)
  intro h' tk acc hkeep hacc
  have hlen : acc.toList.length = xs.length := by rw [Array.length_toList, hacc.1, esz]
  have eacc : acc.toList = xs.map fun x => Value.ref x.2.1 := by
    apply List.ext_getElem?
    intro j
    by_cases hj : j < xs.length
    · have hja : j < acc.toList.length := by omega
      have e1 : acc.toList[j]? = some acc.toList[j] := List.getElem?_eq_getElem hja
      obtain ⟨hi, e2⟩ := hacc.2 j acc.toList[j] (by rw [← Array.getElem?_toList]; exact e1)
      have e3 : es.toList[j]? = some es[j] := by rw [Array.getElem?_toList]; simp [hi]
      rw [g4, List.getElem?_map, List.getElem?_eq_getElem hj] at e3
      have e4 := (Option.some.inj e3).symm
      rw [e1, e2, e4, List.getElem?_map, List.getElem?_eq_getElem hj]
      rfl
    · rw [List.getElem?_eq_none (by omega), List.getElem?_eq_none (by rw [List.length_map]; omega)]
  have I1 : Inv X pins σ H { s with heap := h', toks := tk } := I.kept hkeep
  refine wpAny_bind (wpAny_newList ?_ (by rw [hlen]; omega))
  show wpAny _ _ _ _ _ { s with heap := h'.push (seqObj "list" acc.toList.toArray 0), toks := tk }
  have hoL : (h'.push (seqObj "list" acc.toList.toArray 0)).get? h'.objs.size = some (seqObj "list" acc.toList.toArray 0) := Heap.get?_push_size _ rfl
  have each : ∀ (R : Value → NestedKey × Addr × Value → Prop) (xs : List (NestedKey × Addr × Value)), (∀ x ∈ xs, R (.ref x.2.1) x) → EachIs R (xs.map fun x => Value.ref x.2.1) xs := by
    intro R xs
    induction xs with
    | nil => intro _; exact .nil
    | cons x xs ih => intro h; exact .cons (h x List.mem_cons_self) (ih fun y hy => h y (List.mem_cons_of_mem _ hy))
  have rd : ∀ x ∈ xs, Reads (h'.push (seqObj "list" acc.toList.toArray 0)) (.ref x.2.1) x.1.data [] := by
    intro x hx
    obtain ⟨as, rd⟩ := Dp.reads I1 _ _ (.ref x.2.1) ((hk x hx).1.l2 (nk_noDict x.1)) rfl
    have e := (nested_of_reads _ _ _ rd).2
    subst e
    exact PyProof.Rows.Reads.keeps (fun b o e => Heap.get?_push_of_some _ e) rd
  refine wpAny_bind (wpAny_holding (list_sort_data (s := { s with heap := h'.push (seqObj "list" acc.toList.toArray 0), toks := tk }) (A := X.A.in1) (enc := fun x : NestedKey × Addr × Value => x.1.data) (bs := xs) (R := fun v x => v = .ref x.2.1) hoL ?_ ?_ hal hso (by omega) ?_ ?_))
  · rw [eacc]; exact each _ xs fun _ _ => rfl
  · have E := each (fun v x => ∃ as, Reads (h'.push (seqObj "list" acc.toList.toArray 0)) v x.1.data as ∧ h'.objs.size ∉ as) xs fun x hx => ⟨[], rd x hx, by simp⟩
    rw [← eacc] at E
    exact E
  · intro x hx
    have := (hk x hx).2
    rw [nk_depth]
    show X.A.units + 1 + 1 + x.1.depth < cLine
    omega
  · intro out h1 h2
    obtain ⟨e', he'⟩ := PyProof.Rows.sortedHeap_at (vs := acc.toList) (out := out.toArray) hoL
    have vo : ∀ {out : List Value} {bs : List (NestedKey × Addr × Value)}, EachIs (fun v x => v = .ref x.2.1) out bs → Vals (bs.map fun x => V.ref x.2.1) out := by
      intro out bs h
      induction h with
      | nil => exact .nil
      | cons h t ih => exact .cons h ih
    have hl2 : ((xs.mergeSort (dataLe false fun x => x.1.data)).map fun x => V.ref x.2.1).length ≤ sizeLine := by
      rw [List.length_map, List.length_mergeSort]; omega
    refine wpAny_pure ⟨_, rfl, .ref h'.objs.size, upd H h'.objs.size (.lst ((xs.mergeSort (dataLe false fun x => x.1.data)).map fun x => .ref x.2.1)), I1.laid (t' := tk) (fun b u e => ?_) (Nat.le_refl _) ⟨hl2, out, e', vo h2, he'⟩, rfl, q _ (I1.hok.fresh (Nat.le_refl _))⟩
    have hb : b < h'.objs.size := Heap.lt_size e
    rw [PyProof.Rows.sortedHeap_old (Nat.ne_of_lt hb) (by rw [Heap.size_push]; exact Nat.lt_succ_of_lt hb)]
    exact Heap.get?_push_of_some _ e
end
section
variable {X : Cx} {ρ ρ1 : Env'} {e : Expr} {pos p : Pos}
open PySem.W in
theorem dl_sortDn {i : Nat} {kvs : List (NestedKey × PyData)} (hc : X.calm = true) (hu : X.A.units + 100 < cLine) (hal : AllAlike (kvs.map fun x => x.1.data)) (hso : Sortable (kvs.map fun x => x.1.data)) (hm : X.mg "sorted" = none) (h : DE X ρ e (.o i) ρ1) (hs : ρ1[i]? = some (.o (.dn X.w kvs)) := by rfl) (hg : Gl X "sorted" := by rfl)
    (he : starEach [e] X.env = (false, eval e X.env) :: starEach [] X.env := by rfl) (hpl : (backTo pos (starEach [] X.env)).any (·.1) = false := by rfl) : DL X ρ (.Call (.Name "sorted" p) [e] [] pos) (sortD (kvs.map fun x => x.1.data)) ρ1 :=
  dl_cB (call_sortDn hc hu) (fun F Z B H σ Q v k w q => by
    obtain ⟨v', as, g1, g2, _⟩ := k.ob (gS_some hs)
    have w' : gV σ i = some v := w
    rw [w'] at g1
    cases g1
    cases g2 with
    | @dn _ a xs _ d1 d2 d3 d4 d5 =>
    have ef : (xs.map fun x => x.1.data) = kvs.map fun x => x.1.data := by
      have q1 := congrArg (List.map NestedKey.data) (nk_fst d5)
      rw [List.map_map, List.map_map] at q1
      exact q1
    have back : ∀ l : List (NestedKey × Addr × Value), (∀ x ∈ l, Dp X.K B (.ref x.2.1) x.1.data) → DpAll X.K B (l.map fun x => .ref x.2.1) (l.map fun x => x.1.data) := by
      intro l
      induction l with
      | nil => intro _; exact .nil
      | cons x l ih => intro hl; exact .cons (hl x List.mem_cons_self) (ih fun y hy => hl y (List.mem_cons_of_mem _ hy))
    refine ⟨a, xs, rfl, d1, d2, d3, fun x hx => ⟨dp_mono k.exB (nk_keys d5 x hx).1, (nk_keys d5 x hx).2⟩, by rw [ef]; exact hal, by rw [ef]; exact hso, fun l hl => q l _ B _ (k.loose hl _) (Sub.refl B) (k.laid hl _) upd_same ?_⟩
    have e2 : sortD (kvs.map fun x => x.1.data) = (xs.mergeSort (dataLe false fun x => x.1.data)).map fun x => x.1.data := by
      unfold sortD
      rw [← ef]
      exact (sort_maps (r := dataLe false fun x : NestedKey × Addr × Value => x.1.data) (s := dataLe false id) (fun x => x.1.data) (fun _ _ _ _ => rfl)).symm
    rw [e2]
    exact back _ fun x hx => (nk_keys d5 x ((List.mergeSort_perm _ _).mem_iff.mp hx)).1) PyProof.Rows.boot_sorted hm hg h (by decide) (by decide) he hpl
end
end G

set_option Elab.async false
set_option linter.all false
set_option maxRecDepth 100000
set_option maxHeartbeats 4000000
/- dict comprehensions whose keys are tuples -/
namespace G
open PySem L2 PySem.Spec PyProof.Rows

section
variable {X : Cx} {pins : List (Addr × Obj)} {σ : L2.St} {H : Hp} {s : Shared} {a ka : Addr} {xs : List (NestedKey × Addr × Value)} {k : NestedKey}
theorem dn_put {u : Value} {A' : Value → Shared → Prop} {Q : Unit → Shared → Prop} (hu : X.A.units + 100 < cLine) (I : Inv X pins σ H s) (h : H a = some (dnHO X.w a xs)) (hk : ∀ x ∈ xs, Dp X.K H (.ref x.2.1) x.1.data ∧ x.1.depth ≤ 8) (nd : (xs.map (·.1)).Nodup)
    (hz : xs.length ≤ 1000000) (hkey : Dp X.K H (.ref ka) k.data) (hd : k.depth ≤ 8) (q : ∀ s', Inv X pins σ (upd H a (dnHO X.w a (storedH xs k ka u))) s' → Q () s') : wpAny (model X.prog X.w) X.A (dictSet a (.ref ka) u) Q A' s := by
  refine wpAny_dictSet_heap (knd := nestedKind X.prog X.w) (by show X.A.units + 8 < cLine; omega) (key_is I hkey hd) (dn_of I h hk nd) (fun h' m' hs => ?_) (by rw [sizeLine_eq]; omega)
  obtain ⟨o, ho⟩ : ∃ o, h'.get? a = some o := by obtain ⟨o, _, _, ho, _⟩ := m'; exact ⟨o, ho⟩
  exact q _ (I.write (e := a) (o := dnHO X.w a (storedH xs k ka u)) (by rw [h]; trivial) (.inl rfl) (fun b u hb e => (hs.2 b hb).trans e) ⟨o, ho⟩ (dn_ok m'))
end

/-- the reading of {kx: vx for tg in iter if ..} -/
def tDcN (K : PySem.W.Frag) (w : World) (wi : TI) (g : TG) (tt : TT) (tk tv : TE) (vs : List Nat) : TE := fun σ H Q => wi σ H fun J H1 => ∀ D, H1 D = none → (D == sysModules) = false →
  ∃ W : Nat → Nat → Hp → Prop, (∃ m, W 0 m (upd H1 D (dnHO w D []))) ∧ ∀ i m H, W i m H → (J.stop i H ∧ Q (.ref D) H) ∨
    (J.go i H ∧ ∃ Nx : Hp → Prop, (∀ H', Nx H' → ∃ m', m' < m ∧ W (i + 1) m' H') ∧ ∀ x H', J.yld i H x H' → g x (wipe σ vs) H' fun σ2 H2 => wipe σ2 vs = wipe σ vs ∧ tt σ2 H2 fun b H3 =>
      if b = true then tk σ2 H3 fun y H4 => tv σ2 H4 fun z H5 => ∃ xs k ka, y = .ref ka ∧ H5 D = some (dnHO w D xs) ∧ (∀ x ∈ xs, Dp K H5 (.ref x.2.1) x.1.data ∧ x.1.depth ≤ 8) ∧ (xs.map (·.1)).Nodup ∧ xs.length ≤ 1000000 ∧ Dp K H5 (.ref ka) k.data ∧ k.depth ≤ 8 ∧
        ∀ u, RelV z u → Nx (upd H5 D (dnHO w D (storedH xs k ka u))) else Nx H3)
section
variable {X : Cx}
theorem dcN_core {pins : List (Addr × Obj)} {s : Shared} {σ : L2.St} {H : Hp} {Q : VK} {use : Option (Value → Sem Unit)} {Qf : Value → Shared → Prop} {kx vx tg iter : Expr} {ifs : List Expr} {scope : Scope} {own : List (Str × Nat)} {pos pos' : Pos} {wi : TI} {g : TG} {tt : TT} {tk tv : TE} (hunits : X.A.units + 100 < cLine) (hc : X.calm = true) (hN : X.N.Nodup) (I : Inv X pins σ H s) (hi : PI X tg iter wi) (ok : BlkOk X.N X.env.scope scope own)
    (hg : Blk X scope fun Y => PG Y tg g) (ht : Blk X scope fun Y => PTs Y ifs tt) (hk : Blk X scope fun Y => PE Y kx tk) (he : Blk X scope fun Y => PE Y vx tv) (hs : ∀ x, foldedSetIterable iter X.env x = pure x)
    (h : tDcN X.K X.w wi g tt tk tv (own.map (·.2)) σ H Q)
    (hRR : ∀ D C s' m H', Inv X pins σ H' s' → Q (.ref D) H' → s'.heap.Ns C m → FpOk X pins H' C → compPost (model X.prog X.w) X.A X.xe use Qf (.ref D) C (.ok .next) s') :
    wpAny (model X.prog X.w) X.A (comprehension (.DictComp kx vx [⟨tg, iter, ifs, 0⟩] scope pos) scope X.env pos' (newObj (.type "dict") (.dict #[])) false (eval iter X.env) use) Qf X.xe s := by
  have free : ∀ y ∈ scope.names, y.2 = .free → ∃ c, X.env.cells.lookup y.1 = some c := by
    intro y hy e
    exact I.ok.has _ (ok.free y hy e)
  refine wpAny_comprehension_free (use := use) rfl hs (closure_ok free) ok.kind (fun y hy e => by rw [ok.uniq y hy, e]) (thn (hi.run pins s σ H _ I h) fun xv s1 hx => thn hx ?_)
  rintro itv s2 ⟨it, fp, tn, J, H2, e, I2, T, st2, f2, q⟩
  subst e
  refine wpAny_newObj_type (newEnv_comp ?_)
  generalize hD : s2.heap.objs.size = D
  have hDn : H2 D = none := I2.hok.fresh (Nat.le_of_eq hD)
  have hDs : (D == sysModules) = false := by
    rw [← hD]
    exact beq_eq_false_iff_ne.mpr (Ne.symm (Nat.ne_of_lt I2.big))
  obtain ⟨W, ⟨m0, w0⟩, turn⟩ := q D hDn hDs
  generalize hs3 : ({ s2 with heap := s2.heap.push { cls := .type "dict", data := .dict #[] } } : Shared) = s3
  have I3 : Inv X pins σ (upd H2 D (dnHO X.w D [])) s3 := by
    rw [← hs3]
    refine I2.laid (t' := s2.toks) (fun b o e => Heap.get?_push_of_some _ e) (Nat.le_of_eq hD) ?_
    rw [← hD]
    exact dn_ok (P := X.prog) (Heap.DictOfH.new s2.heap)
  have h3 : s3.heap = s2.heap.push { cls := .type "dict", data := .dict #[] } := by rw [← hs3]
  have sz : ∀ b ∈ fp, b < s2.heap.objs.size := by
    intro b hb
    obtain ⟨o, e, _⟩ := T.obj _ _ st2 b hb
    exact Heap.lt_size e
  have f3 : ∀ b ∈ fp, FpOk X pins (upd H2 D (dnHO X.w D [])) b ∧ b < s3.heap.objs.size := by
    intro b hb
    have hlt := sz b hb
    refine ⟨⟨?_, (f2 b hb).2⟩, by rw [h3, Heap.size_push]; exact Nat.lt_succ_of_lt hlt⟩
    rw [upd_ne (by rw [← hD]; exact Nat.ne_of_lt hlt)]
    exact (f2 b hb).1
  have st3 : tn 0 s3.heap := T.keep _ _ _ st2 fun b _ o e => by rw [h3]; exact Heap.get?_push_of_some _ e
  have I4 := block_start I3 ok hN f3
  have pg := hg s3 (upd H2 D (dnHO X.w D [])) s3.heap.objs.size (cellsFrom (s3.heap.objs.size + 1) scope.names (cloFrom X.env.cells scope.names [])) fp
  have pt := ht s3 (upd H2 D (dnHO X.w D [])) s3.heap.objs.size (cellsFrom (s3.heap.objs.size + 1) scope.names (cloFrom X.env.cells scope.names [])) fp
  have pk := hk s3 (upd H2 D (dnHO X.w D [])) s3.heap.objs.size (cellsFrom (s3.heap.objs.size + 1) scope.names (cloFrom X.env.cells scope.names [])) fp
  have pv := he s3 (upd H2 D (dnHO X.w D [])) s3.heap.objs.size (cellsFrom (s3.heap.objs.size + 1) scope.names (cloFrom X.env.cells scope.names [])) fp
  generalize hce : compEnvC scope (cellsFrom (s3.heap.objs.size + 1) scope.names (cloFrom X.env.cells scope.names [])) s3.heap.objs.size X.env = ce at I4 pg pt pk pv
  have cL : ce.locals = s3.heap.objs.size := by subst hce; rfl
  generalize hH3 : upd H2 D (dnHO X.w D []) = H3 at I3 I4 pg pt pk pv w0 f3
  have nfp : ∀ b ∈ fp, H3 b = none := fun b hb => (f3 b hb).1.1
  generalize hs4 : ({ s3 with heap := pushCells (s3.heap.push { cls := .type "dict", data := .dict #[] }) scope.names } : Shared) = s4 at I4
  have st4 : tn 0 s4.heap := T.keep _ _ _ st3 fun b _ o e => by rw [← hs4]; exact pushCells_keeps _ _ _ _ (Heap.get?_push_of_some _ e)
  have stat : ∀ {σ' : L2.St} {H' : Hp} {s' : Shared}, Inv (X.blk s3 H3 scope ce fp) [] σ' H' s' → (∀ b ∈ fp, H' b = none) → ∀ b ∈ fp, FpOk (X.blk s3 H3 scope ce fp) [] H' b := by
    intro σ' H' s' I' hn b hb
    exact ⟨hn b hb, (I'.ok.exf b hb).1, I'.ok.exfs b hb, .inl hb, fun x c e => (I'.ok.exf b hb).2 x c e, fun p hp => absurd (show p ∈ ([] : List (Addr × Obj)) ++ [] from hp) (by simp)⟩
  have loop : codeAny (model X.prog X.w) X.A (.compLoop (.DictComp kx vx [⟨tg, iter, ifs, 0⟩] scope pos) 0 (.ref it) (.ref D) ce) (compPost (model X.prog X.w) X.A X.xe use Qf (.ref D) s3.heap.objs.size) s4 := by
    refine compLoop_anyD (fun n s' => ∃ i H', Inv (X.blk s3 H3 scope ce fp) [] (wipe σ (own.map (·.2))) H' s' ∧ tn i s'.heap ∧ (∀ b ∈ fp, H' b = none) ∧ W i n H') ?_ m0 ⟨0, H3, I4, st4, nfp, w0⟩
    rintro n s5 ⟨i, H5, I5, st5, n5, w5⟩
    rcases turn i n H5 w5 with ⟨stop, qq⟩ | ⟨go, Nx, hNx, step⟩
    · refine thnF (T.done (X.blk s3 H3 scope ce fp) rfl rfl rfl hc i [] s5 _ H5 (fun _ _ => False) I5 (stat I5 n5) st5 stop) ?_
      rintro r s6 ⟨hr, I6⟩
      subst hr
      have I7 : Inv X pins σ H5 s6 := I3.call' (ch := fp) I6.os I6.base I6.hok I6.bare fun b hb => ⟨(f3 b hb).1.2.2.2.1, (f3 b hb).1.2.1, (f3 b hb).1.2.2.2.2.1, (f3 b hb).1.2.2.2.2.2⟩
      have nC : H5 s3.heap.objs.size = none := by
        rw [← cL]
        exact I6.free
      obtain ⟨m, hn, _⟩ := I6.loc
      have hn' : s6.heap.Ns s3.heap.objs.size m := by rw [← cL]; exact hn
      exact hRR D s3.heap.objs.size s6 m H5 I7 qq hn' (I3.fpOk (Nat.le_refl _) nC)
    · refine thnF (T.item (X.blk s3 H3 scope ce fp) rfl rfl rfl hc i [] s5 _ H5 (fun _ _ => False) I5 (stat I5 n5) st5 go) ?_
      rintro r s6 ⟨u, hr, h6⟩
      subst hr
      refine thnF h6 ?_
      rintro _ s7 ⟨x, H7, I7, r7, y7, st7, n7⟩
      have I7' := I7.pinned (stat I7 n7) (T.obj _ _ st7)
      refine thnF (pg.run _ s7 _ H7 x u _ I7' r7 (step x H7 y7)) ?_
      rintro _ s8 ⟨σ8, H8, I8, hw8, q8⟩
      refine thnF (pt.run _ s8 σ8 H8 _ I8 q8) ?_
      rintro b s9 ⟨H9, I9, q9⟩
      have fin : ∀ {s' : Shared} {H' : Hp}, Inv (X.blk s3 H3 scope ce fp) ([] ++ pinsAt fp s7.heap) σ8 H' s' → Nx H' → ∃ m, m < n ∧ ∃ i H', Inv (X.blk s3 H3 scope ce fp) [] (wipe σ (own.map (·.2))) H' s' ∧ tn i s'.heap ∧ (∀ b ∈ fp, H' b = none) ∧ W i m H' := by
        intro s' H' I' nx
        obtain ⟨m', hm, w'⟩ := hNx H' nx
        have pin' : ∀ b ∈ fp, ∀ o, s7.heap.get? b = some o → s'.heap.get? b = some o ∧ H' b = none := by
          intro b hb o e
          have z := I'.pin (b, o) (List.mem_append_right _ (List.mem_append_right _ (mem_pinsAt hb e)))
          exact ⟨z.1, z.2.1⟩
        refine ⟨m', hm, i + 1, H', (I'.unpinned (pins := [])).weak (by rw [← hw8, wipe_length]) (fun j v e => ?_), T.keep _ _ _ st7 fun b hb o e => (pin' b hb o e).1, fun b hb => ?_, w'⟩
        · rw [← hw8] at e
          exact (wipe_some e).1
        · obtain ⟨o, e, _⟩ := T.obj _ _ st7 b hb
          exact (pin' b hb o e).2
      cases b with
      | false =>
        rw [if_neg (by decide)] at q9
        simp only [Bool.false_eq_true, if_false]
        exact fin I9 q9
      | true =>
        rw [if_pos rfl] at q9
        simp only [if_true]
        refine thnF (pk.run _ s9 σ8 H9 _ I9 q9) ?_
        rintro z s10 ⟨yk, H10, I10, r10, q10⟩
        refine thnF (pv.run _ s10 σ8 H10 _ I10 q10) ?_
        rintro z2 s11 ⟨yv, H11, I11, r11, xs, k, ka, ek, hD11, hkk, nd, hz, hkey, hdp, nx⟩
        subst ek
        have er : z = .ref ka := r10
        subst er
        exact dn_put (X := X.blk s3 H3 scope ce fp) hunits I11 hD11 hkk nd hz hkey hdp fun s12 I12 => fin I12 (nx _ r11)
  have fin := codeAny_compStart_dict loop (T.self X.A 0 _ _ _ st4 loop)
  rw [← hce] at fin
  exact fin
theorem pe_dcN {kx vx tg iter : Expr} {ifs : List Expr} {scope : Scope} {own : List (Str × Nat)} {pos : Pos} {wi : TI} {g : TG} {tt : TT} {tk tv : TE} (hunits : X.A.units + 100 < cLine) (hc : X.calm = true) (hN : X.N.Nodup) (hi : PI X tg iter wi) (ok : BlkOk X.N X.env.scope scope own)
    (hg : Blk X scope fun Y => PG Y tg g) (ht : Blk X scope fun Y => PTs Y ifs tt) (hk : Blk X scope fun Y => PE Y kx tk) (he : Blk X scope fun Y => PE Y vx tv) (hs : ∀ x, foldedSetIterable iter X.env x = pure x := by intro _; rfl) :
    PE X (.DictComp kx vx [⟨tg, iter, ifs, 0⟩] scope pos) (tDcN X.K X.w wi g tt tk tv (own.map (·.2))) := by
  constructor
  intro pins s σ H Q I h
  rw [arm_eval_DictComp]
  refine dcN_core hunits hc hN I hi ok hg ht hk he hs h fun D C s' m H' I' q hn f => ⟨m, hn, fun h'' sb => ?_⟩
  obtain ⟨f0, f1, f2, f3, f4, f5⟩ := f
  exact ⟨.ref D, H', I'.turned (t' := s'.toks) (fun b o hb e => (sb.2 b hb).trans e) f0 f1 f3 f4 f5, rfl, q⟩
/-- name = {..} on one line, the name a local -/
theorem ps_setDcN {i : Nat} {y : Str} {py spos : Pos} {kx vx tg iter : Expr} {ifs : List Expr} {scope : Scope} {own : List (Str × Nat)} {pos : Pos} {wi : TI} {g : TG} {tt : TT} {tk tv : TE} (hunits : X.A.units + 100 < cLine) (hc : X.calm = true) (hN : X.N.Nodup) (hy : X.N[i]? = some y) (hyl : X.env.scope.names.lookup y = some .local)
    (hsw : swapsWith (.DictComp kx vx [⟨tg, iter, ifs, 0⟩] scope pos) (some (.Name y py)) spos.line X.env = pure true) (hi : PI X tg iter wi) (ok : BlkOk X.N X.env.scope scope own)
    (hg : Blk X scope fun Y => PG Y tg g) (ht : Blk X scope fun Y => PTs Y ifs tt) (hk : Blk X scope fun Y => PE Y kx tk) (he : Blk X scope fun Y => PE Y vx tv) (hs : ∀ x, foldedSetIterable iter X.env x = pure x := by intro _; rfl) :
    PS X (.Assign [.Name y py] (.DictComp kx vx [⟨tg, iter, ifs, 0⟩] scope pos) spos) (tAsg (tDcN X.K X.w wi g tt tk tv (own.map (·.2))) (gName i)) := by
  refine ⟨fun pins s σ H D I h => ?_⟩
  rw [exec_Assign_Name_used _ _ _ _ hsw]
  refine wpAny_bind (wpAny_standAt (wpAny_bind ?_))
  show wpAny _ X.A (do let _ ← comprehension (.DictComp kx vx [⟨tg, iter, ifs, 0⟩] scope pos) scope X.env (firstIterPos [⟨tg, iter, ifs, 0⟩] pos) (newObj (.type "dict") (.dict #[])) false (eval iter X.env) (some (assign (.Name y py) X.env))) _ _ s
  have h : tDcN X.K X.w wi g tt tk tv (own.map (·.2)) σ H (fun x H1 => gName i x σ H1 D.nx) := h
  refine wpAny_bind (thn (dcN_core (Qf := fun _ s' => SP X pins D .next s') hunits hc hN I hi ok hg ht hk he hs h fun L C s' m H' I' q hn f => ?_) fun _ s' hq => wpAny_pure (wpAny_pure hq))
  show wpAny _ _ (assign (.Name y py) X.env (.ref L)) _ _ _
  refine wpAny_assign_Name (store_ok2 (v := V.ref L) I' hN hy (.inl hyl) rfl (fun s2 I2 ⟨a, sb, ha⟩ => ?_) (.inr hyl))
  obtain ⟨f0, f1, f2, f3, f4, f5⟩ := f
  have haC : C ≠ a := by
    rcases ha with z | z
    · rw [z]; exact f1
    · exact fun e => f4 y a z e.symm
  refine ⟨m, hn.sameBut sb haC, fun h3 sb3 => ?_⟩
  exact ⟨_, H', I2.turned (t' := s2.toks) (fun b o hb e => (sb3.2 b hb).trans e) f0 f1 f3 f4 f5, q⟩
end
end G

set_option Elab.async false
set_option linter.all false
set_option maxRecDepth 100000
set_option maxHeartbeats 4000000
/- dict comprehensions whose keys are tuples, on data -/
namespace G
open PySem L2 PySem.Spec PyProof.Rows

section
variable {X : Cx} {ρ ρ' ρ1 ρ2 ρ3 : Env'} {a b c e elt tg iter kx vx : Expr} {es ifs : List Expr} {pos p : Pos} {xs : List PyData}
/-- a new dict whose keys are tuples -/
def DD (X : Cx) (ρ : Env') (e : Expr) (kvs : List (NestedKey × PyData)) (ρ' : Env') : Prop := ∀ F Z B H σ Q, Ok X.K F Z B H σ ρ →
  (∀ p B' H', Ok X.K F Z B' H' σ ρ' → Sub B B' → New X.K F Z B' H' σ ρ' p → ObAt X.K B' H' (.ref p) [p] (.dn X.w kvs) → Q (.ref p) H') → sE X e σ H Q
theorem ds_setDn {i : Nat} {x : Str} {pos' : Pos} {kvs : List (NestedKey × PyData)} {s0 : Sl} (hN : X.N.Nodup) (he : DD X ρ e kvs ρ1) (hr : ρ1[i]? = some s0 := by rfl) (hi : X.N[i]? = some x := by rfl) (hx : Loc X.env.scope x := by first | exact Or.inl rfl | exact Or.inr rfl)
    (hs : swapsWith e (some (.Name x pos')) pos.line X.env = pure false := by rfl) (hf : X.fn x = true ∨ X.env.scope.names.lookup x = some .local := by first | exact .inl rfl | exact .inr rfl) : DS X ρ (.Assign [.Name x pos'] e pos) (.nx (ρ1.set i (.o (.dn X.w kvs)))) := fun F Z B H σ D k q =>
  ⟨_, ps_set hN hi hx pe_s hs hf, he F Z B H σ _ k fun p B1 H1 k1 x1 n w => q B1 H1 _ (k1.take n (List.getElem?_eq_some_iff.mp hr).1 w) x1⟩

/-- what is put in turn by turn -/
def kvN (ks : Nat → NestedKey × PyData) : Nat → List (NestedKey × PyData)
  | 0 => []
  | i + 1 => putN (kvN ks i) (ks i).1 (ks i).2
theorem putN_len {kvs : List (NestedKey × PyData)} {k : NestedKey} {d : PyData} : (putN kvs k d).length ≤ kvs.length + 1 := by
  unfold putN
  split <;> simp
theorem kvN_len {ks : Nat → NestedKey × PyData} : ∀ i, (kvN ks i).length ≤ i
  | 0 => Nat.le_refl _
  | i + 1 => Nat.le_trans putN_len (Nat.succ_le_succ (kvN_len i))
def DcT (X : Cx) (scope : Scope) (vs : List Nat) (tg kx vx : Expr) (x : PyData) (ρ : Env') (k : NestedKey) (d : PyData) (ρ' : Env') : Prop :=
  ∃ ρt js ρk ρe, (∀ j ∈ js, j ∈ vs) ∧ (Blk X scope fun Y => DG Y ρ tg x js ρt) ∧ (Blk X scope fun Y => DE Y ρt kx (.d k.data) ρk) ∧ (Blk X scope fun Y => DE Y ρk vx (.d d) ρe) ∧ Wk ρe ρ' ∧ k.depth ≤ 8 ∧ ∃ ks, k = .tup ks
theorem dc_go {scope : Scope} {vs : List Nat} (hi : DI X ρ tg iter xs ρ1) (ρs : Nat → Env') (ks : Nat → NestedKey × PyData)
    (turn : ∀ i x, xs[i]? = some x → DcT X scope vs tg kx vx x (ρs i) (ks i).1 (ks i).2 (ρs (i + 1))) (h0 : Wk (wipeE ρ1 vs) (ρs 0)) (hu : ∀ i, Wk (wipeE (ρs i) vs) (ρs i)) (hm : Mrg ρ1 (ρs xs.length) vs ρ') (hz : xs.length < 1000000)
    {F : Hp} {Z : Addr → Prop} {B H : Hp} {σ : L2.St} {Q : VK} (k : Ok X.K F Z B H σ ρ)
    (q : ∀ p B' H', Ok X.K F Z B' H' σ ρ' → Sub B B' → New X.K F Z B' H' σ ρ' p → ObAt X.K B' H' (.ref p) [p] (.dn X.w (kvN ks xs.length)) → Q (.ref p) H') :
    tDcN X.K X.w (sI X tg iter) (bG X scope tg) tYes (bE X scope kx) (bE X scope vx) vs σ H Q := by
  refine hi F Z B H σ _ k fun J n Gd Y B1 H1 k1 x1 hn W hG hY D hD hDs => ?_
  subst hn
  have kw := (k1.wipe vs).weak h0
  obtain ⟨frD, _, frZ⟩ := k1.fresh hD
  refine ⟨fun i m H' => m = xs.length - i ∧ i ≤ xs.length ∧ ∃ B', Ok X.K F Z B' H' (wipe σ vs) (ρs i) ∧ Sub B1 B' ∧ New X.K F Z B' H' (wipe σ vs) (ρs i) D ∧ ObAt X.K B' H' (.ref D) [D] (.dn X.w (kvN ks i)), ⟨xs.length, by simp, Nat.zero_le _, B1, kw.loose hD _, Sub.refl B1, kw.laid hD _, .dn upd_same hDs (by simp) (by simp) .nil⟩, ?_⟩
  rintro i m H' ⟨rfl, hle, B', k', y, nw, ob⟩
  by_cases hlt : i < xs.length
  · refine .inr ⟨W.goes i H' hlt (hG B' H' y k'.exB), fun H' => ∃ B', Ok X.K F Z B' H' (wipe σ vs) (ρs (i + 1)) ∧ Sub B1 B' ∧ New X.K F Z B' H' (wipe σ vs) (ρs (i + 1)) D ∧ ObAt X.K B' H' (.ref D) [D] (.dn X.w (kvN ks (i + 1))), fun H' h => ⟨xs.length - (i + 1), by omega, rfl, hlt, h⟩, ?_⟩
    intro v H2 hv
    have hv := W.yields i H' v H2 hlt (hG B' H' y k'.exB) hv
    cases ob with
    | @dn _ _ ys _ d1 d2 d3 d4 d5 =>
    obtain ⟨B2, x, hx, k2, y2, w⟩ := hY _ _ B' H' (wipe σ vs) (ρs i) i v H2 (k'.lock nw d1) y hlt hv
    obtain ⟨ρt, js, ρk, ρe, t1, t2, t3, t4, t5, t6, kk, ek⟩ := turn i x hx
    intro s0 H0 C0 cl0 fp0
    refine t2 s0 H0 C0 cl0 fp0 _ _ B2 H2 (wipe σ vs) v _ k2 w fun B3 H3 σ3 k3 y3 wp => ?_
    have e3 : wipe σ3 vs = wipe σ vs := wipe_wipe (wp vs t1)
    refine ⟨by rw [e3], ?_⟩
    unfold tYes
    dsimp only
    rw [if_pos rfl]
    intro s1 H1' C1 cl1 fp1
    refine t3 s1 H1' C1 cl1 fp1 _ _ B3 H3 σ3 _ k3 fun vk B4 H4 k4 y4 wk => ?_
    intro s2 H2' C2 cl2 fp2
    refine t4 s2 H2' C2 cl2 fp2 _ _ B4 H4 σ3 _ k4 fun vz B5 H5 k5 y5 wz => ?_
    have k5' := ((k5.weak t5).wipe vs).weak (hu (i + 1))
    rw [e3] at k5'
    obtain ⟨k6, n6, h6⟩ := k5'.unlock frD frZ
    have yy : Sub B' B5 := ((y2.trans y3).trans y4).trans y5
    have dk : Dp X.K B5 vk (NestedKey.tup kk).data := by
      have z := dp_mono y5 wk
      rw [ek] at z
      exact z
    have e4 : ∃ ka, vk = .ref ka := by
      rw [NestedKey.data] at dk
      cases dk; exact ⟨_, rfl⟩
    obtain ⟨ka, rfl⟩ := e4
    have d5' := d5.mono yy
    refine ⟨ys, .tup kk, ka, rfl, h6, fun z hz => ⟨dp_mono k6.exB (nk_keys d5' z hz).1, (nk_keys d5' z hz).2⟩, d4, d3, dp_mono k6.exB dk, by rw [← ek]; exact t6, fun u ru => ?_⟩
    have hl : (storedH ys (.tup kk) ka u).length ≤ 1000000 := Nat.le_trans storedH_len (by rw [d5.length]; have := kvN_len (ks := ks) i; omega)
    refine ⟨B5, k6.poke n6, y.trans yy, n6.poke k6, ?_⟩
    have fin : ObAt X.K B5 (upd H5 D (dnHO X.w D (storedH ys (.tup kk) ka u))) (.ref D) [D] (.dn X.w (putN (kvN ks i) (.tup kk) (ks i).2)) :=
      .dn upd_same d2 hl (storedH_nodup d4) (nk_put d5' dk (by rw [← ek]; exact t6) ru wz)
    show ObAt X.K B5 _ _ _ (.dn X.w (putN (kvN ks i) (ks i).1 (ks i).2))
    rw [ek]
    exact fin
  · have e : i = xs.length := by omega
    subst e
    have dn0 := ob
    cases ob with
    | @dn _ _ ys _ d1 d2 d3 d4 d5 =>
    obtain ⟨k6, n6, h6⟩ := (Ok.merge k1 (k'.lock nw d1) y hm).unlock frD frZ
    exact .inl ⟨W.stops H' (hG B' H' y k'.exB), q D B' H' k6 (x1.trans y) n6 dn0⟩
theorem dd_dc {scope : Scope} {own : List (Str × Nat)} (hunits : X.A.units + 100 < cLine) (hc : X.calm = true) (hN : X.N.Nodup) (ok : BlkOk X.N X.env.scope scope own) (hi : DI X ρ tg iter xs ρ1) (ρs : Nat → Env') (ks : Nat → NestedKey × PyData)
    (turn : ∀ i x, xs[i]? = some x → DcT X scope (own.map (·.2)) tg kx vx x (ρs i) (ks i).1 (ks i).2 (ρs (i + 1))) (h0 : Wk (wipeE ρ1 (own.map (·.2))) (ρs 0)) (hu : ∀ i, Wk (wipeE (ρs i) (own.map (·.2))) (ρs i)) (hm : Mrg ρ1 (ρs xs.length) (own.map (·.2)) ρ') (hz : xs.length < 1000000)
    (hs : ∀ x, foldedSetIterable iter X.env x = pure x := by intro _; rfl) : DD X ρ (.DictComp kx vx [⟨tg, iter, [], 0⟩] scope pos) (kvN ks xs.length) ρ' := fun F Z B H σ Q k q =>
  ⟨_, pe_dcN (g := bG X scope tg) (tt := tYes) (tk := bE X scope kx) (tv := bE X scope vx) hunits hc hN pi_s ok pg_b (fun _ _ _ _ _ => pts_nil) pe_b pe_b hs, dc_go hi ρs ks turn h0 hu hm hz k q⟩
theorem ds_setDc {i : Nat} {y : Str} {py spos : Pos} {s0 : Sl} {scope : Scope} {own : List (Str × Nat)} (hunits : X.A.units + 100 < cLine) (hc : X.calm = true) (hN : X.N.Nodup) (ok : BlkOk X.N X.env.scope scope own) (hsw : swapsWith (.DictComp kx vx [⟨tg, iter, [], 0⟩] scope pos) (some (.Name y py)) spos.line X.env = pure true)
    (hi : DI X ρ tg iter xs ρ1) (ρs : Nat → Env') (ks : Nat → NestedKey × PyData)
    (turn : ∀ i x, xs[i]? = some x → DcT X scope (own.map (·.2)) tg kx vx x (ρs i) (ks i).1 (ks i).2 (ρs (i + 1))) (h0 : Wk (wipeE ρ1 (own.map (·.2))) (ρs 0)) (hu : ∀ i, Wk (wipeE (ρs i) (own.map (·.2))) (ρs i)) (hm : Mrg ρ1 (ρs xs.length) (own.map (·.2)) ρ') (hz : xs.length < 1000000)
    (hr : ρ'[i]? = some s0 := by rfl) (hy : X.N[i]? = some y := by rfl) (hyl : X.env.scope.names.lookup y = some .local := by rfl) (hs : ∀ x, foldedSetIterable iter X.env x = pure x := by intro _; rfl) :
    DS X ρ (.Assign [.Name y py] (.DictComp kx vx [⟨tg, iter, [], 0⟩] scope pos) spos) (.nx (ρ'.set i (.o (.dn X.w (kvN ks xs.length))))) := fun F Z B H σ D k q =>
  ⟨_, ps_setDcN (g := bG X scope tg) (tt := tYes) (tk := bE X scope kx) (tv := bE X scope vx) hunits hc hN hy hyl hsw pi_s ok pg_b (fun _ _ _ _ _ => pts_nil) pe_b pe_b hs,
    dc_go hi ρs ks turn h0 hu hm hz k fun p B' H' k' x n w => q B' H' _ (k'.take n (List.getElem?_eq_some_iff.mp hr).1 w) x⟩
end
end G

set_option Elab.async false
set_option linter.all false
set_option maxRecDepth 100000
set_option maxHeartbeats 4000000
/- the source of the draws -/
namespace G
open PySem L2 PySem.Spec PyProof.Rows

abbrev kCells : Key := .inr "cells"
abbrev kLeft : Key := .inr "left"
abbrev kMixed : Key := .inr "mixed"
abbrev kTurn : Key := .inr "turn"
section
variable {l : Addr} {st : Src}
theorem src_cells : valV (srcKvs l st) kCells = some (.ref l) := by unfold srcKvs valV; rfl
theorem src_left : valV (srcKvs l st) kLeft = some (.int st.left) := by
  unfold srcKvs valV
  rw [List.find?_cons, show decide ((kCells : Key) = kLeft) = false by decide +kernel]
  rfl
theorem src_mixed : valV (srcKvs l st) kMixed = some (.int st.mixed) := by
  unfold srcKvs valV
  rw [List.find?_cons, show decide ((kCells : Key) = kMixed) = false by decide +kernel]
  dsimp only
  rw [List.find?_cons, show decide ((kLeft : Key) = kMixed) = false by decide +kernel]
  rfl
theorem src_turn : valV (srcKvs l st) kTurn = some (.int st.turn) := by
  unfold srcKvs valV
  rw [List.find?_cons, show decide ((kCells : Key) = kTurn) = false by decide +kernel]
  dsimp only
  rw [List.find?_cons, show decide ((kLeft : Key) = kTurn) = false by decide +kernel]
  dsimp only
  rw [List.find?_cons, show decide ((kMixed : Key) = kTurn) = false by decide +kernel]
  rfl
theorem ne_cl : ¬ (kCells : Key) = kLeft := by decide +kernel
theorem ne_cm : ¬ (kCells : Key) = kMixed := by decide +kernel
theorem ne_ct : ¬ (kCells : Key) = kTurn := by decide +kernel
theorem ne_lm : ¬ (kLeft : Key) = kMixed := by decide +kernel
theorem ne_lt : ¬ (kLeft : Key) = kTurn := by decide +kernel
theorem ne_mt : ¬ (kMixed : Key) = kTurn := by decide +kernel
theorem put_left {i : Int} : putK (srcKvs l st) kLeft (.int i) = srcKvs l { st with left := i } := by
  unfold putK srcKvs
  simp only [List.any_cons, List.any_nil, List.map_cons, List.map_nil, ne_cl, decide_false, decide_true, Bool.true_or, Bool.false_or, if_true, if_false, show ¬ (kMixed : Key) = kLeft from fun e => ne_lm e.symm, show ¬ (kTurn : Key) = kLeft from fun e => ne_lt e.symm]
theorem put_mixed {i : Int} : putK (srcKvs l st) kMixed (.int i) = srcKvs l { st with mixed := i } := by
  unfold putK srcKvs
  simp only [List.any_cons, List.any_nil, List.map_cons, List.map_nil, ne_cm, ne_lm, decide_false, decide_true, Bool.true_or, Bool.false_or, if_true, if_false, show ¬ (kTurn : Key) = kMixed from fun e => ne_mt e.symm]
theorem put_turn {i : Int} : putK (srcKvs l st) kTurn (.int i) = srcKvs l { st with turn := i } := by
  unfold putK srcKvs
  simp only [List.any_cons, List.any_nil, List.map_cons, List.map_nil, ne_ct, ne_lt, ne_mt, decide_false, decide_true, Bool.true_or, Bool.false_or, if_true, if_false]
end

section
variable {X : Cx} {ρ ρ' ρ1 ρ2 ρ3 ρ4 : Env'} {a b c e e1 e2 e3 e4 : Expr} {es : List Expr} {pos p p1 p2 p3 : Pos} {i : Nat} {sa : Addr} {st : Src} {j j' : Option Str}
/-- source["left"], source["mixed"], source["turn"] -/
theorem de_srcGet {key : Str} {n : Int} {jj} (hu : X.A.units + 100 < cLine) (hv : ∀ l, valV (srcKvs l st) (.inr key) = some (.int n)) (h : DE X ρ e (.o i) ρ1) (hs : ρ1[i]? = some (.o (.src sa st)) := by rfl) (hsl : NoSl (.Constant (.str key) jj p1) := by intro _ _; rfl) :
    DE X ρ (.Subscript e (.Constant (.str key) jj p1) pos) (.d (.int n)) ρ1 := fun F Z B H σ Q k q =>
  ⟨_, pe_dget (by omega) pe_s pe_str hsl, h F Z B H σ _ k fun v B1 H1 k1 x1 w => by
    obtain ⟨v', as, g1, g2, _⟩ := k1.ob (gS_some hs)
    have w' : gV σ i = some v := w
    rw [w'] at g1
    cases g1
    cases g2 with
    | @src _ l _ n1 n2 n3 =>
    refine ⟨sa, .int n, rfl, ?_, q _ B1 H1 k1 x1 (.int n)⟩
    have g := DGet.k (k := (.inr key : Key)) n2
    rw [hv l] at g
    exact g⟩
/-- source[key] = e -/
theorem ds_srcSet {key : Str} {n : Int} {jj} {st' : Src} {pos' : Pos} (hu : X.A.units + 100 < cLine) (hp : ∀ l, putK (srcKvs l st) (.inr key) (.int n) = srcKvs l st') (hc : st'.cells = st.cells) (hv : DE X ρ e (.d (.int n)) ρ1) (ho : DE X ρ1 a (.o i) ρ2) (hs2 : ρ2[i]? = some (.o (.src sa st)) := by rfl)
    (hs : swapsWith e (some (.Subscript a (.Constant (.str key) jj p1) pos')) pos.line X.env = pure false := by rfl) : DS X ρ (.Assign [.Subscript a (.Constant (.str key) jj p1) pos'] e pos) (.nx (ρ2.set i (.o (.src sa st')))) := fun F Z B H σ D k q =>
  ⟨_, ps_dput (by omega) pe_s pe_str pe_s hs, hv F Z B H σ _ k fun v B1 H1 k1 x1 w1 => ho F Z B1 H1 σ _ k1 fun o B2 H2 k2 x2 w2 => by
    obtain ⟨v', as, g1, g2, _⟩ := k2.ob (gS_some hs2)
    have w' : gV σ i = some o := w2
    rw [w'] at g1
    cases g1
    have dn0 := g2
    cases g2 with
    | @src _ l _ n1 n2 n3 =>
    have dv : Dp X.K B1 v (.int n) := w1
    cases dv
    have hz : (srcKvs l st).length < sizeLine := by rw [sizeLine_eq]; show 4 < 16777216; omega
    have g := DPut.k (k := (.inr key : Key)) (v := .int n) n2 hz
    rw [hp l] at g
    refine ⟨sa, _, rfl, g, q B2 _ σ (k2.turn (gS_some hs2) w' dn0 (.src n1 upd_same ?_) fun b hb => ?_) (x1.trans x2)⟩
    · rw [upd_ne (Ne.symm n1), hc]; exact n3
    · rw [upd_ne fun z => hb (by rw [z]; exact List.mem_cons_self)]⟩
/-- len(source["cells"]) -/
theorem de_srcLen {jj} (hu : X.A.units + 100 < cLine) (hm : X.mg "len" = none) (h : DE X ρ e (.o i) ρ1) (hs : ρ1[i]? = some (.o (.src sa st)) := by rfl) (hg : Gl X "len" := by rfl) (hsl : NoSl (.Constant (.str "cells") jj p1) := by intro _ _; rfl)
    (he : starEach [.Subscript e (.Constant (.str "cells") jj p1) p2] X.env = (false, eval (.Subscript e (.Constant (.str "cells") jj p1) p2) X.env) :: starEach [] X.env := by rfl) (hpl : (backTo pos (starEach [] X.env)).any (·.1) = false := by rfl) :
    DE X ρ (.Call (.Name "len" p) [.Subscript e (.Constant (.str "cells") jj p1) p2] [] pos) (.d (.int st.cells.length)) ρ1 := fun F Z B H σ Q k q =>
  ⟨_, pe_callB call_len_seq hg hm PySem.boot_len (pa_cons (pe_dget (by omega) pe_s pe_str hsl) pa_nil he) (by decide) (by decide) he hpl, h F Z B H σ _ k fun v B1 H1 k1 x1 w => by
    obtain ⟨v', as, g1, g2, _⟩ := k1.ob (gS_some hs)
    have w' : gV σ i = some v := w
    rw [w'] at g1
    cases g1
    cases g2 with
    | @src _ l _ n1 n2 n3 =>
    have g := DGet.k (k := kCells) n2
    rw [src_cells] at g
    exact ⟨sa, .ref l, rfl, g, l, _, rfl, .inl (SqL.of n3), by rw [List.length_map]; exact q _ B1 H1 k1 x1 (.int _)⟩⟩
/-- source["left"] = source["cells"].pop() -/
theorem ds_srcPop {jj jj2} {cs : List Int} {n : Int} {apos pos' : Pos} (hu : X.A.units + 100 < cLine) (hcs : st.cells = cs ++ [n]) (h : DE X ρ e (.o i) ρ) (h2 : DE X (ρ.set i (.o (.src sa { st with cells := cs }))) a (.o i) (ρ.set i (.o (.src sa { st with cells := cs })))) (hs : ρ[i]? = some (.o (.src sa st)) := by rfl) (hsl : NoSl (.Constant (.str "cells") jj p1) := by intro _ _; rfl)
    (hbase : attributeBase (.Subscript e (.Constant (.str "cells") jj p1) p2) "pop" X.env (eval (.Subscript e (.Constant (.str "cells") jj p1) p2) X.env) = eval (.Subscript e (.Constant (.str "cells") jj p1) p2) X.env := by rfl) (hline : (apos.endLine == p3.line) = true := by rfl)
    (hsw : swapsWith (.Call (.Attribute (.Subscript e (.Constant (.str "cells") jj p1) p2) "pop" apos) [] [] p3) (some (.Subscript a (.Constant (.str "left") jj2 p) pos')) pos.line X.env = pure false := by rfl) :
    DS X ρ (.Assign [.Subscript a (.Constant (.str "left") jj2 p) pos'] (.Call (.Attribute (.Subscript e (.Constant (.str "cells") jj p1) p2) "pop" apos) [] [] p3) pos) (.nx (ρ.set i (.o (.src sa { st with cells := cs, left := n })))) := fun F Z B H σ D k q =>
  ⟨_, ps_dput (by omega) pe_s pe_str (pe_bm0 PySem.F.plainAttrs_list PySem.F.slot_list_pop PySem.F.type_list_pop mt_pop (pe_dget (by omega) pe_s pe_str hsl) hbase hline) hsw, h F Z B H σ _ k fun v B1 H1 k1 x1 w => by
    obtain ⟨v', as, g1, g2, _⟩ := k1.ob (gS_some hs)
    have w' : gV σ i = some v := w
    rw [w'] at g1
    cases g1
    have dn0 := g2
    cases g2 with
    | @src _ l _ n1 n2 n3 =>
    have g := DGet.k (k := kCells) n2
    rw [src_cells] at g
    have e1 : st.cells.map V.int = cs.map V.int ++ [V.int n] := by rw [hcs]; simp
    rw [e1] at n3
    refine ⟨sa, .ref l, rfl, g, .inl ⟨rfl, _, SqL.of n3⟩, l, _, .int n, rfl, rfl, n3, by simp, ?_⟩
    have e2 : (cs.map V.int ++ [V.int n]).dropLast = cs.map V.int := by simp
    rw [e2]
    have k2 := k1.turn (H' := upd H1 l (.lst (cs.map V.int))) (b' := .src sa { st with cells := cs }) (gS_some hs) w' dn0 (.src n1 (by rw [upd_ne n1]; exact n2) upd_same) fun b hb => by
      rw [upd_ne fun z => hb (by rw [z]; exact List.mem_cons_of_mem _ List.mem_cons_self)]
    refine h2 F Z B1 _ σ _ k2 fun o B3 H3 k3 x3 w3 => ?_
    have hsi : (ρ.set i (.o (.src sa { st with cells := cs })))[i]? = some (.o (.src sa { st with cells := cs })) := List.getElem?_set_self (List.getElem?_eq_some_iff.mp hs).1
    obtain ⟨v', as, g1, g2, _⟩ := k3.ob (gS_some hsi)
    rw [w'] at g1
    cases g1
    have eo : o = .ref sa := by
      have w3' : gV σ i = some o := w3
      rw [w'] at w3'
      exact (Option.some.inj w3').symm
    subst eo
    have dn1 := g2
    cases g2 with
    | @src _ l _ n1 n2 n3 =>
    have hz : (srcKvs l { st with cells := cs }).length < sizeLine := by rw [sizeLine_eq]; show 4 < 16777216; omega
    have gp := DPut.k (k := kLeft) (v := .int n) n2 hz
    rw [put_left] at gp
    refine ⟨sa, _, rfl, gp, ?_⟩
    have k4 := k3.turn (H' := upd H3 sa (.dK (srcKvs l { st with cells := cs, left := n }))) (b' := .src sa { st with cells := cs, left := n }) (gS_some hsi) w' dn1 (.src n1 upd_same (by rw [upd_ne (Ne.symm n1)]; exact n3)) fun b hb => by
      rw [upd_ne fun z => hb (by rw [z]; exact List.mem_cons_self)]
    rw [List.set_set] at k4
    exact q B3 _ σ k4 (x1.trans x3)⟩

/-! ### a new source -/
def DSrc (X : Cx) (ρ : Env') (e : Expr) (st : Src) (ρ' : Env') : Prop := ∀ F Z B H σ Q, Ok X.K F Z B H σ ρ →
  (∀ a l B' H', Ok X.K F Z B' H' σ ρ' → Sub B B' → New X.K F Z B' H' σ ρ' a → New X.K F Z B' H' σ ρ' l → ObAt X.K B' H' (.ref a) [a, l] (.src a st) → Q (.ref a) H') → sE X e σ H Q
theorem New.other {K : PySem.W.Frag} {F : Hp} {Z : Addr → Prop} {B B' H H' : Hp} {σ : L2.St} {q : Addr} (k : Ok K F Z B H σ ρ) (n : New K F Z B H σ ρ q) (e : ∀ b, b ≠ q → (∃ o, H b = some o) → H' b = H b) (hq : ∃ o, H q = some o) : New K F Z B H' σ ρ q := by
  refine ⟨n.f, n.b, n.z, fun j b v as g1 g2 g3 m => ?_⟩
  obtain ⟨v', as', f1, f2, f3⟩ := k.ob g1
  rw [g2] at f1
  cases f1
  have np : q ∉ as' := n.o j b v as' g1 g2 f2
  have e : as = as' := ObAt.uni g3 f2 fun a ha => e a (fun z => np (by rw [← z]; exact ha)) (f2.live a ha)
  rw [e] at m
  exact np m
theorem dsrc_disp {j1 j2 j3 j4} {q1 q2 q3 q4 : Pos} (h1 : DL X ρ e1 (st.cells.map .int) ρ1) (h2 : DE X ρ1 e2 (.d (.int st.left)) ρ1) (h3 : DE X ρ1 e3 (.d (.int st.mixed)) ρ1) (h4 : DE X ρ1 e4 (.d (.int st.turn)) ρ1) :
    DSrc X ρ (.Dict [some (.Constant (.str "cells") j1 q1), some (.Constant (.str "left") j2 q2), some (.Constant (.str "mixed") j3 q3), some (.Constant (.str "turn") j4 q4)] [e1, e2, e3, e4] pos) st ρ1 := fun F Z B H σ Q k q =>
  ⟨_, pe_disp (pps_cons pe_str pe_s (pps_cons pe_str pe_s (pps_cons pe_str pe_s (pps_cons pe_str pe_s pps_nil)))) rfl rfl (by intro z; cases z) (by simp), fun a ha => by
    obtain ⟨af, ab, az⟩ := k.fresh ha
    have kl := (k.loose ha (.dK [])).lock (k.laid ha (.dK [])) upd_same
    refine h1 _ _ B _ σ _ kl fun l us B1 H1 k1 x1 n1 hl t1 => ?_
    -- the list is held fast, too
    have kl1 := k1.lock n1 hl
    refine h2 _ _ B1 H1 σ _ kl1 fun v2 B2 H2 k2 x2 w2 => h3 _ _ B2 H2 σ _ k2 fun v3 B3 H3 k3 x3 w3 => h4 _ _ B3 H3 σ _ k3 fun v4 B4 H4 k4 x4 w4 => ?_
    cases w2; cases w3; cases w4
    obtain ⟨k5, n5, h5⟩ := k4.unlock n1.f n1.z
    have la : l ≠ a := fun z => n1.z (.inr z)
    obtain ⟨k6, n6, h6⟩ := k5.unlock af az
    have eus := DpAll.ints t1
    subst eus
    refine ⟨h6, [(kCells, .ref l), (kLeft, .int st.left), (kMixed, .int st.mixed), (kTurn, .int st.turn)], rfl, by simp, ?_⟩
    have em : mergeK [] [(kCells, V.ref l), (kLeft, .int st.left), (kMixed, .int st.mixed), (kTurn, .int st.turn)] = srcKvs l st := by
      show putK (putK (putK (putK [] kCells (.ref l)) kLeft (.int st.left)) kMixed (.int st.mixed)) kTurn (.int st.turn) = srcKvs l st
      unfold srcKvs
      simp only [putK, List.any_nil, List.any_cons, List.nil_append, ne_cl, ne_cm, ne_ct, ne_lm, ne_lt, ne_mt, decide_false, Bool.or_false, Bool.false_eq_true, if_false, List.cons_append]
    rw [em]
    have nl : New X.K F Z B4 H4 σ ρ1 l := by
      have fl : F l = none := by
        have z := n1.f
        rw [upd_ne la] at z
        exact z
      exact ⟨fl, n5.b, fun z => n1.z (.inl z), n5.o⟩
    refine q a l B4 _ (k6.poke n6) (((x1.trans x2).trans x3).trans x4) (n6.poke k6) ?_ (.src (Ne.symm la) upd_same (by rw [upd_ne la]; exact h5))
    refine ⟨nl.f, nl.b, nl.z, fun j b v as g1 g2 g3 m => ?_⟩
    obtain ⟨v', as', f1, f2, f3⟩ := k6.ob g1
    rw [g2] at f1
    cases f1
    have np : a ∉ as' := n6.o j b v as' g1 g2 f2
    have e : as = as' := ObAt.uni g3 f2 fun c hc => by rw [upd_ne fun z => np (by rw [← z]; exact hc)]
    rw [e] at m
    exact nl.o j b v as' g1 g2 f2 m⟩
/-- a block that hands back a new source -/
def DBs (X : Cx) (ρ : Env') (sts : List Stmt) (st : Src) : Prop := ∀ F Z B H σ D, Ok X.K F Z B H σ ρ →
  (∀ a l B' H' σ' ρ', Ok X.K F Z B' H' σ' ρ' → Sub B B' → New X.K F Z B' H' σ' ρ' a → New X.K F Z B' H' σ' ρ' l → ObAt X.K B' H' (.ref a) [a, l] (.src a st) → D.rt (.ref a) H') → sB X sts D σ H
theorem dbs_cons {s1 : Stmt} {rest : List Stmt} (h : DS X ρ s1 (.nx ρ1)) (t : DBs X ρ1 rest st) : DBs X ρ (s1 :: rest) st := fun F Z B H σ D k q =>
  ⟨_, pss_cons ps_s pb_s, h F Z B H σ { D with nx := sB X rest D } k fun B1 H1 σ1 k1 x1 => t F Z B1 H1 σ1 D k1 fun a l B2 H2 σ2 ρ2 k2 x2 => q a l B2 H2 σ2 ρ2 k2 (x1.trans x2)⟩
theorem dbs_ret (h : DSrc X ρ e st ρ1) : DBs X ρ [.Return (some e) pos] st := fun F Z B H σ D k q =>
  ⟨_, pss_one (ps_ret pe_s), h F Z B H σ _ k fun a l B' H' k' x n1 n2 ob => q a l B' H' σ ρ1 k' x n1 n2 ob⟩
def spN (K : PySem.W.Frag) (Φ : List PyData → Src → Prop) : Sp := fun vs H Q _ => ∃ F Z B ds st, Φ ds st ∧ Ok K F Z B H (vs.map some) (ds.map Sl.d) ∧
  ∀ a l B' H', Ok K F Z B' H' (vs.map some) (ds.map Sl.d) → Sub B B' → New K F Z B' H' (vs.map some) (ds.map Sl.d) a → New K F Z B' H' (vs.map some) (ds.map Sl.d) l → ObAt K B' H' (.ref a) [a, l] (.src a st) → Q (.ref a) H'
theorem fnN_of {P : Program} {w : World} {K : PySem.W.Frag} {mg : Str → Option Value} {base : Heap} {x qual : Str} {sd : Stmt} {f : Addr} {fd : FuncData} {N ps : List Str} {k : Nat} {Φ : List PyData → Src → Prop} (Fn : Fun K x qual sd f fd) (S : FnScope N ps (defScope sd)) (len : ∀ ds d, Φ ds d → ds.length = ps.length)
    (body : ∀ (cdv : Value) (A : Around) (outer : List Env) (s : Shared) (H : Hp) (E : XK) (ds : List PyData) (d : Src), A.guards = some [] → Room k (A.deeper (envOfC qual (defScope sd) s.heap.objs.size f cdv)) → Φ ds d →
      DBs (cxOf L2.CX0 P w K mg base N qual (defScope sd) f cdv A outer s H E).nox (ds.map Sl.d ++ List.replicate (N.length - ds.length) .un) (defBody sd) d) :
    FnG P w K mg base (k + 1) f fd ps (spN K Φ) := by
  refine fnG_of Fn S ?_ ?_
  · rintro vs H Q E ⟨F, Z, B, ds, d, h, k, _⟩
    have e := k.len
    rw [List.length_map, List.length_map] at e
    rw [e, len ds d h]
  · rintro cdv A outer s H vs Q E hg hr ⟨F, Z, B, ds, d, h, k, q⟩
    have hb := body cdv A outer s H E ds d hg hr h
    have e := k.len
    rw [List.length_map, List.length_map] at e
    have kk := k.app (N.length - ds.length)
    refine ⟨_, pb_s, hb F Z B H _ _ (by unfold L2.start; rw [e]; exact kk) fun a l B' H' σ' ρ' k' y n1 n2 ob => ?_⟩
    obtain ⟨own, _, _, h3⟩ := k.own
    have rd : DpAll K B vs ds := dpAll_of vs ds e h3
    have ko := okD k'.exF k'.exB k'.z (dpAll_mono y rd)
    have nn : ∀ {q : Addr}, New K F Z B' H' σ' ρ' q → New K F Z B' H' (vs.map some) (ds.map Sl.d) q := fun {q} n => ⟨n.f, n.b, n.z, fun j b v as g1 g2 g3 m => by
      have z : ∀ (ds : List PyData) (j : Nat), gS (ds.map Sl.d) j ≠ .o b := by
        intro ds j h
        unfold gS at h
        rw [List.getElem?_map] at h
        cases hd : ds[j]? with
        | none => rw [hd] at h; cases h
        | some d => rw [hd] at h; cases h
      exact z ds j g1⟩
    exact q a l B' H' ko y (nn n1) (nn n2) ob
/-- source = f(script) -/
theorem db_setSrc {x y : Str} {k : Nat} {f : Addr} {fd : FuncData} {ps : List Str} {ds : List PyData} {rest : List Stmt} {o : O} {s0 : Sl} {pos' : Pos} {Φ : List PyData → Src → Prop} (Fn : FnG X.prog X.w X.K X.mg X.base k f fd ps (spN X.K Φ)) (hgd : X.A.guards = some []) (hr : Room k X.A) (hm : X.mg x = some (.ref f)) (hk : PySem.W.keepIn X.K (.ref f) = true) (hb : Binds X.K fd ps [])
    (hΦ : Φ ds st) (hN : X.N.Nodup) (h : DA X ρ (e :: es) ds ρ1) (t : ∀ a, DB X (ρ1.set i (.o (.src a st))) rest o) (hr1 : ρ1[i]? = some s0 := by rfl) (hi : X.N[i]? = some y := by rfl) (hg : Gl X x := by rfl) (hdb : (x == ("__debug__" : Str)) = false := by decide) (he : starEach (e :: es) X.env = (false, eval e X.env) :: starEach es X.env := by rfl)
    (hpl : (backTo p (starEach es X.env)).any (·.1) = false := by rfl) (hx : Loc X.env.scope y := by first | exact Or.inl rfl | exact Or.inr rfl)
    (hsw : swapsWith (.Call (.Name x p1) (e :: es) [] p) (some (.Name y pos')) pos.line X.env = pure false := by rfl) (hf : X.fn y = true ∨ X.env.scope.names.lookup y = some .local := by first | exact .inl rfl | exact .inr rfl) :
    DB X ρ (.Assign [.Name y pos'] (.Call (.Name x p1) (e :: es) [] p) pos :: rest) o := fun F Z B H σ D k' q =>
  ⟨_, pss_cons (ps_set hN hi hx (pe_callG Fn hgd hr hg hm hk hb pa_s hdb he hpl) hsw hf) pb_s, h F Z B H σ _ k' fun vs B1 H1 k1 x1 tt => by
    show spN X.K Φ (vs ++ []) H1 _ L2.E0
    rw [List.append_nil]
    refine ⟨H1, fun b => H1 b ≠ none ∧ B1 b = none, B1, ds, st, hΦ, okD (Sub.refl H1) k1.exB (fun b hb => ⟨hb.2, Option.ne_none_iff_exists'.mp hb.1⟩) tt, fun a l B2 H2 k2 y n1 n2 ob => ?_⟩
    have k3 := k1.grow y k2.exF k2.exB fun b hb hb' => (k2.z b ⟨hb, hb'⟩).1
    have fr : ∀ {c : Addr}, H1 c = none → H2 c ≠ none → B2 c = none → New X.K F Z B2 H2 σ ρ1 c := fun {c} h1 h2 h3 => by
      obtain ⟨z1, z2, z3⟩ := k1.fresh h1
      refine ⟨z1, h3, z3, fun j b v as g1 g2 g3 m => ?_⟩
      obtain ⟨v', as', f1, f2, f3⟩ := k1.ob g1
      rw [g2] at f1
      cases f1
      have e : as = as' := ObAt.uni g3 f2 fun d hd => by
        obtain ⟨o, ho⟩ := f2.live d hd
        rw [ho, k2.exF d o ho]
      rw [e] at m
      obtain ⟨o, ho⟩ := f2.live _ m
      rw [h1] at ho; cases ho
    have na := fr n1.f (by obtain ⟨o, ho⟩ := ob.live a List.mem_cons_self; rw [ho]; simp) n1.b
    have nl := fr n2.f (by obtain ⟨o, ho⟩ := ob.live l (List.mem_cons_of_mem _ List.mem_cons_self); rw [ho]; simp) n2.b
    refine t a F Z B2 H2 _ D (k3.setO (List.getElem?_eq_some_iff.mp hr1).1 ob (fun b hb => ?_) fun own h3 _ j _ b hb => ?_) (q.sub (x1.trans y))
    · rcases (show b = a ∨ b = l by simpa using hb) with z | z
      · subst z; exact ⟨na.f, na.b, na.z⟩
      · subst z; exact ⟨nl.f, nl.b, nl.z⟩
    · rcases (show b = a ∨ b = l by simpa using hb) with z | z
      · subst z; exact na.not h3 j
      · subst z; exact nl.not h3 j⟩
end
end G

set_option Elab.async false
set_option linter.all false
set_option maxRecDepth 100000
set_option maxHeartbeats 4000000
/- parallel assignment, while by turns, dicts with texts as keys, a list that is laid still -/
namespace G
open PySem L2 PySem.Spec PyProof.Rows
section
variable {X : Cx} {ρ ρ' ρ1 ρ2 ρ3 : Env'} {a b c e : Expr} {es : List Expr} {r r1 r2 r3 : R} {pos p : Pos} {st : Stmt} {rest sts body : List Stmt} {o : O} {xs ys : List PyData}
/-! ### a, b = e1, e2 -/
theorem ds_par {i j : Nat} {x y : Str} {d1 d2 : PyData} {px py pt : Pos} {kt k2 pt2} (hc : X.calm = true) (hN : X.N.Nodup) (ha : DA X ρ [a, b] [d1, d2] ρ1) (hi : X.N[i]? = some x := by rfl) (hj : X.N[j]? = some y := by rfl) (hij : i ≠ j := by decide)
    (hx : X.env.scope.names.lookup x = some .local := by rfl) (hy : X.env.scope.names.lookup y = some .local := by rfl)
    (hw : swappedStores [.Tuple [.Name x px, .Name y py] kt pt] (.Tuple [a, b] k2 pt2) X.env = pure (some [x, y]) := by rfl)
    (hs : swapsWithSole [.Tuple [.Name x px, .Name y py] kt pt] (.Tuple [a, b] k2 pt2) pos.line X.env = pure false := by rfl) :
    DS X ρ (.Assign [.Tuple [.Name x px, .Name y py] kt pt] (.Tuple [a, b] k2 pt2) pos) (.nx ((ρ1.set i (.d d1)).set j (.d d2))) := fun F Z B H σ D k q =>
  ⟨_, ps_par hc hN hi hj hij hx hy pa_s hw hs, ha F Z B H σ _ k fun vs B1 H1 k1 x1 t => by
    cases t with
    | cons t1 t =>
      cases t with
      | cons t2 t =>
        cases t
        exact ⟨_, _, rfl, q B1 H1 _ ((k1.setD t1).setD t2) x1⟩⟩
theorem ds_parL {i j : Nat} {x y : Str} {d1 : PyData} {s0 : Sl} {px py pt : Pos} {kt k2 pt2} (hc : X.calm = true) (hN : X.N.Nodup) (ha : DE X ρ a (.d d1) ρ1) (hb : DL X ρ1 b ys ρ2) (hr : ρ2[j]? = some s0 := by rfl) (hi : X.N[i]? = some x := by rfl) (hj : X.N[j]? = some y := by rfl) (hij : i ≠ j := by decide)
    (hx : X.env.scope.names.lookup x = some .local := by rfl) (hy : X.env.scope.names.lookup y = some .local := by rfl)
    (hw : swappedStores [.Tuple [.Name x px, .Name y py] kt pt] (.Tuple [a, b] k2 pt2) X.env = pure (some [x, y]) := by rfl)
    (hs : swapsWithSole [.Tuple [.Name x px, .Name y py] kt pt] (.Tuple [a, b] k2 pt2) pos.line X.env = pure false := by rfl)
    (hs1 : starEach [a, b] X.env = (false, eval a X.env) :: starEach [b] X.env := by rfl) (hs2 : starEach [b] X.env = (false, eval b X.env) :: starEach [] X.env := by rfl) :
    DS X ρ (.Assign [.Tuple [.Name x px, .Name y py] kt pt] (.Tuple [a, b] k2 pt2) pos) (.nx ((ρ2.set j (.o (.lst ys))).set i (.d d1))) := fun F Z B H σ D k q =>
  ⟨_, ps_par hc hN hi hj hij hx hy (pa_cons pe_s (pa_cons pe_s pa_nil hs2) hs1) hw hs, ha F Z B H σ _ k fun v1 B1 H1 k1 x1 w1 => hb F Z B1 H1 σ _ k1 fun p us B2 H2 k2 x2 n2 h2 t2 => by
    refine ⟨v1, .ref p, rfl, ?_⟩
    rw [List.set_comm _ _ hij]
    have w2 : Dp X.K B1 v1 d1 := w1
    exact q B2 H2 _ ((k2.take n2 (List.getElem?_eq_some_iff.mp hr).1 (.lst h2 t2)).setD (dp_mono x2 w2)) (x1.trans x2)⟩

/-! ### a list of our own is data from here on -/
theorem Ok.still {K : PySem.W.Frag} {F : Hp} {Z : Addr → Prop} {B H : Hp} {σ : L2.St} {i : Nat} {xs : List PyData} (k : Ok K F Z B H σ ρ) (hs : gS ρ i = .o (.lst xs)) : ∃ B', Sub B B' ∧ Ok K F Z B' H σ (ρ.set i (.d (.list xs))) := by
  obtain ⟨v, as, g1, g2, g3⟩ := k.ob hs
  cases g2 with
  | @lst a vs _ h t =>
  obtain ⟨f1, f2, f3⟩ := g3 a List.mem_cons_self
  have n : New K F Z B H σ (ρ.set i .un) a := by
    refine ⟨f1, f2, f3, fun j b v as q1 q2 q3 m => ?_⟩
    rw [gS_set] at q1
    split at q1
    · cases q1
    · rename_i hne
      obtain ⟨own, o1, o2, o3⟩ := k.own
      have e1 := o3 j
      rw [q1, q2] at e1
      have e2 := o3 i
      rw [hs, g1] at e2
      generalize hoj : own j = oj at e1
      generalize hoi : own i = oi at e2
      cases e1 with
      | o e1 =>
        cases e2 with
        | o e2 =>
          have z1 : oj = as := ObAt.uni e1 q3 fun _ _ => rfl
          have z2 : a ∈ oi := by cases e2; exact List.mem_cons_self
          have ji : j = i := o2 j i a (by rw [hoj, z1]; exact m) (by rw [hoi]; exact z2)
          have hl : i < ρ.length := by
            rcases Nat.lt_or_ge i ρ.length with z | z
            · exact z
            · unfold gS at hs
              rw [List.getElem?_eq_none z] at hs
              cases hs
          exact hne ⟨ji, hl⟩
  have ku : Ok K F Z B H σ (ρ.set i .un) := by
    have q := k.setN (i := i) (a := gV σ i)
    have e : σ.set i (gV σ i) = σ := by
      apply List.ext_getElem?
      intro m
      by_cases em : m = i
      · subst em
        rw [gV_some g1 |> fun z => (by rw [g1] : gV σ m = some (.ref a))]
        by_cases hl : m < σ.length
        · rw [List.getElem?_set_self hl, gV_some g1]
        · have := List.getElem?_eq_none (Nat.le_of_not_lt hl)
          rw [gV_some g1] at this
          cases this
      · rw [List.getElem?_set_ne (Ne.symm em)]
    rw [e] at q
    exact q
  have k3 := ku.adopt n h
  have x3 : Sub B (upd B a (.lst vs)) := fun b o' hb => by rw [upd_ne (ne_of_none hb f2)]; exact hb
  refine ⟨upd B a (.lst vs), x3, ?_⟩
  have k4 := k3.setD (i := i) (v := .ref a) (x := .list xs) (.lst (.inl (.inl upd_same)) (dpAll_mono x3 t))
  have e : σ.set i (some (.ref a)) = σ := by
    apply List.ext_getElem?
    intro m
    by_cases em : m = i
    · subst em
      have hl : m < σ.length := (List.getElem?_eq_some_iff.mp (gV_some g1)).1
      rw [List.getElem?_set_self hl, gV_some g1]
    · rw [List.getElem?_set_ne (Ne.symm em)]
  rw [e, List.set_set] at k4
  exact k4
theorem db_still {i : Nat} (t : DB X (ρ.set i (.d (.list xs))) sts o) (hs : ρ[i]? = some (.o (.lst xs)) := by rfl) : DB X ρ sts o := fun F Z B H σ D k q => by
  obtain ⟨B', x, k'⟩ := k.still (gS_some hs)
  exact t F Z B' H σ D k' (q.sub x)

/-! ### while, by turns -/
inductive Lp (X : Cx) (c : Expr) (body : List Stmt) : Env' → Env' → Prop
  | stop {ρ ρ1 : Env'} : DT X ρ c false ρ1 → Lp X c body ρ ρ1
  | step {ρ ρt ρe ρ2 ρ' : Env'} : DT X ρ c true ρt → (DB X ρt body (.nx ρe) ∨ DB X ρt body (.ct ρe)) → Wk ρe ρ2 → Lp X c body ρ2 ρ' → Lp X c body ρ ρ'
theorem Lp.turns (h : Lp X c body ρ ρ') : ∃ n, ∃ ρs : Nat → Env', ρs 0 = ρ ∧ (∀ i, i < n → ∃ ρt ρe, DT X (ρs i) c true ρt ∧ (DB X ρt body (.nx ρe) ∨ DB X ρt body (.ct ρe)) ∧ Wk ρe (ρs (i + 1))) ∧ DT X (ρs n) c false ρ' := by
  induction h with
  | stop h => exact ⟨0, fun _ => _, rfl, fun i hi => absurd hi (Nat.not_lt_zero _), h⟩
  | step h1 h2 h3 _ ih =>
    obtain ⟨n, ρs, g0, g1, g2⟩ := ih
    refine ⟨n + 1, fun i => match i with | 0 => _ | m + 1 => ρs m, rfl, fun i hi => ?_, g2⟩
    cases i with
    | zero => exact ⟨_, _, h1, h2, by show Wk _ (ρs 0); rw [g0]; exact h3⟩
    | succ m => exact g1 m (by omega)
theorem ds_while (hp : PassesOwn (model X.prog X.w) X.A X.env X.xe) (h : Lp X c body ρ ρ1) : DS X ρ (.While c body [] pos) (.nx ρ1) := by
  obtain ⟨n, ρs, g0, g1, g2⟩ := h.turns
  exact while_goes hp n ρs (by rw [g0]; exact Wk.refl _) g1 g2

/-! ### dicts with texts as keys -/
theorem ds_newDk {i : Nat} {x : Str} {pos' dpos : Pos} {s0 : Sl} (hN : X.N.Nodup) (hr : ρ[i]? = some s0 := by rfl) (hi : X.N[i]? = some x := by rfl) (hx : Loc X.env.scope x := by first | exact Or.inl rfl | exact Or.inr rfl) (hs : swapsWith (.Dict [] [] dpos) (some (.Name x pos')) pos.line X.env = pure false := by rfl)
    (hf : X.fn x = true ∨ X.env.scope.names.lookup x = some .local := by first | exact .inl rfl | exact .inr rfl) : DS X ρ (.Assign [.Name x pos'] (.Dict [] [] dpos) pos) (.nx (ρ.set i (.o (.dk [])))) := fun F Z B H σ D k q =>
  ⟨_, ps_set hN hi hx pe_dnewK hs hf, fun d hd => q B _ _ ((k.loose hd _).take (k.laid hd _) (List.getElem?_eq_some_iff.mp hr).1 (.dk upd_same .nil)) (Sub.refl B)⟩
def putD (kvs : List (Key × PyData)) (k : Key) (v : PyData) : List (Key × PyData) := if (kvs.any fun kv => decide (kv.1 = k)) = true then kvs.map (fun kv => if kv.1 = k then (kv.1, v) else kv) else kvs ++ [(k, v)]
theorem KvAll.any {K : PySem.W.Frag} {B : Hp} {k : Key} : ∀ {r : List (Key × V)} {s : List (Key × PyData)}, KvAll K B r s → (r.any fun kv => decide (kv.1 = k)) = (s.any fun kv => decide (kv.1 = k))
  | _, _, .nil => rfl
  | _, _, .cons h t => by rw [List.any_cons, List.any_cons, KvAll.any t]
theorem KvAll.append {K : PySem.W.Frag} {B : Hp} : ∀ {r r2 : List (Key × V)} {s s2 : List (Key × PyData)}, KvAll K B r s → KvAll K B r2 s2 → KvAll K B (r ++ r2) (s ++ s2)
  | _, _, _, _, .nil, q => q
  | _, _, _, _, .cons h t, q => .cons h (KvAll.append t q)
theorem KvAll.map {K : PySem.W.Frag} {B : Hp} {k : Key} {v : V} {d : PyData} (w : Dp K B v d) : ∀ {r : List (Key × V)} {s : List (Key × PyData)}, KvAll K B r s → KvAll K B (r.map fun kv => if kv.1 = k then (kv.1, v) else kv) (s.map fun kv => if kv.1 = k then (kv.1, d) else kv)
  | _, _, .nil => .nil
  | _, _, .cons (k := k') h t => by
    rw [List.map_cons, List.map_cons]
    by_cases e : k' = k
    · subst e
      simp only [if_true]
      exact .cons w (KvAll.map w t)
    · simp only [e, if_false]
      exact .cons h (KvAll.map w t)
theorem KvAll.put {K : PySem.W.Frag} {B : Hp} {k : Key} {v : V} {d : PyData} {r : List (Key × V)} {s : List (Key × PyData)} (t : KvAll K B r s) (w : Dp K B v d) : KvAll K B (putK r k v) (putD s k d) := by
  unfold putK putD
  rw [t.any]
  split
  · exact t.map w
  · exact t.append (.cons w .nil)
/-- d[k] = v, d of our own, k a text -/
theorem ds_dkPut {i : Nat} {kvs : List (Key × PyData)} {k : Str} {y : PyData} {pos' : Pos} (hu : X.A.units + 100 < cLine) (hz : kvs.length < 1000000) (hv : DE X ρ e (.d y) ρ1) (ho : DE X ρ1 a (.o i) ρ2) (hk : DE X ρ2 b (.d (.str k)) ρ3)
    (hs3 : ρ3[i]? = some (.o (.dk kvs)) := by rfl) (hs : swapsWith e (some (.Subscript a b pos')) pos.line X.env = pure false := by rfl) : DS X ρ (.Assign [.Subscript a b pos'] e pos) (.nx (ρ3.set i (.o (.dk (putD kvs (.inr k) y))))) := fun F Z B H σ D kk q =>
  ⟨_, ps_dput (by omega) pe_s pe_s pe_s hs, hv F Z B H σ _ kk fun v B1 H1 k1 x1 w1 => ho F Z B1 H1 σ _ k1 fun o B2 H2 k2 x2 w2 => hk F Z B2 H2 σ _ k2 fun iv B3 H3 k3 x3 w3 => by
    obtain ⟨v', as, g1, g2, g3⟩ := k3.ob (gS_some hs3)
    have w' : gV σ i = some o := w2
    rw [w'] at g1
    cases g1
    have d0 := g2
    have dv : Dp X.K B1 v y := w1
    cases w3
    cases g2 with
    | @dk aa r _ h t =>
    refine ⟨aa, _, rfl, DPut.k (k := .inr k) h (by rw [t.length]; exact Nat.lt_of_lt_of_le hz (by decide)), ?_⟩
    exact q B3 _ σ (k3.turn (gS_some hs3) w' d0 (.dk upd_same (t.put (dp_mono (x2.trans x3) dv))) fun c hc => by
      rw [upd_ne fun z => hc (by rw [z]; exact List.mem_singleton.mpr rfl)]) ((x1.trans x2).trans x3)⟩
theorem KvAll.at {K : PySem.W.Frag} {B : Hp} : ∀ {r : List (Key × V)} {s : List (Key × PyData)}, KvAll K B r s → DpAll K B (r.map (·.2)) (s.map (·.2)) ∧ r.map (·.1) = s.map (·.1)
  | _, _, .nil => ⟨.nil, rfl⟩
  | _, _, .cons h t => ⟨.cons h t.at.1, congrArg _ t.at.2⟩
theorem valV_nodup {κ : Type} [DecidableEq κ] : ∀ {r : List (κ × V)}, (r.map (·.1)).Nodup → ∀ {i : Nat} {k : κ} {v : V}, r[i]? = some (k, v) → valV r k = some v
  | [], _, _, _, _, h => by simp at h
  | (k0, v0) :: r, nd, 0, k, v, h => by
    have e : (k0, v0) = (k, v) := Option.some.inj h
    cases e
    exact valV_pos rfl
  | (k0, v0) :: r, nd, i + 1, k, v, h => by
    rw [List.map_cons, List.nodup_cons] at nd
    have hi : r[i]? = some (k, v) := h
    have ne : k0 ≠ k := fun e => nd.1 (by rw [e]; exact List.mem_map.mpr ⟨(k, v), List.mem_of_getElem? hi, rfl⟩)
    have q := valV_nodup nd.2 hi
    unfold valV at q ⊢
    rw [List.find?_cons]
    simp only [ne, decide_false]
    exact q
/-- [d[k] for k in d] -/
theorem dl_lcKeys {i j : Nat} {x y : Str} {kvs : List (Key × PyData)} {scope : Scope} {own : List (Str × Nat)} {p1 p2 p3 p4 p5 : Pos} (hu : X.A.units + 100 < cLine) (hc : X.calm = true) (hN : X.N.Nodup) (ok : BlkOk X.N X.env.scope scope own) (ho : own.map (·.2) = [j]) (hij : i ≠ j)
    (nd : (kvs.map (·.1)).Nodup) (hz : kvs.length < 1000000) (hsi : ρ[i]? = some (.o (.dk kvs)) := by rfl) (hNi : X.N[i]? = some x := by rfl) (hNj : X.N[j]? = some y := by rfl) (hvi : Vis X.env.scope x := by first | exact Or.inl rfl | exact Or.inr (Or.inl rfl) | exact Or.inr (Or.inr rfl))
    (hb1 : Blk X scope fun Y => PE Y (.Name x p1) (tVar i)) (hb2 : Blk X scope fun Y => PE Y (.Name y p2) (tVar j)) (hb3 : Blk X scope fun Y => PG Y (.Name y p3) (gName j)) (hlj : j < ρ.length)
    (hd : (x == ("__debug__" : Str)) = false := by decide) (hcd : (x == ("__classdict__" : Str)) = false := by decide) (hnl : NoSl (.Name y p2) := by intro _ _; rfl) (hfs : ∀ v, foldedSetIterable (.Name x p4) X.env v = pure v := by intro _; rfl) :
    DL X ρ (.ListComp (.Subscript (.Name x p1) (.Name y p2) p5) [⟨.Name y p3, .Name x p4, [], 0⟩] scope pos) (kvs.map (·.2)) ρ := fun F Z B H σ Q k q =>
  ⟨_, pe_lock (pe_lc hc hN (pi_keys (pe_var hNi hvi hd hcd)) ok hb3 (fun _ _ _ _ _ => pts_nil) (fun s H C cl fp => pe_dget (by show X.A.units + 1 < cLine; omega) (hb1 s H C cl fp) (hb2 s H C cl fp) hnl) hfs), by
    obtain ⟨v, as, g1, g2, g3⟩ := k.ob (gS_some hsi)
    cases g2 with
    | @dk a r _ h t =>
    refine ⟨a, _, h, trivial, fun od => ?_⟩
    refine ⟨.ref a, gV_some g1, a, od, rfl, .inl ⟨r, upd_same, fun D hD => ?_⟩⟩
    have nDa : D ≠ a := fun e => by rw [e, upd_same] at hD; cases hD
    have hD0 : H D = none := by rw [upd_ne nDa] at hD; exact hD
    rw [ho]
    have nd' : (r.map (·.1)).Nodup := by rw [t.at.2]; exact nd
    refine lc_it walk_keys (fun m H' => H' = upd (upd H a (.frz od (.dK r))) D (.lst ((r.map (·.2)).take m))) rfl (fun m H' _ e => by rw [e, upd_ne (Ne.symm nDa)]; exact upd_same) ?_ ?_
    · rintro m x' H' H2 hm e ⟨rfl, kk, vv, hkv, rfl⟩
      have wj : wipe ((wipe σ [j]).set j (some (kV kk))) [j] = wipe σ [j] := by
        rw [wipe_set (by simp)]
        show ((σ.set j none).set j none) = σ.set j none
        rw [List.set_set]
      refine ⟨wj, ?_⟩
      unfold tYes; show ite (true = true) _ _
      rw [if_pos rfl]
      have vi : ((wipe σ [j]).set j (some (kV kk)))[i]? = some (some (.ref a)) := by
        rw [List.getElem?_set_ne (Ne.symm hij), wipe_out (by simpa using hij)]
        exact gV_some g1
      have vj : ((wipe σ [j]).set j (some (kV kk)))[j]? = some (some (kV kk)) := List.getElem?_set_self (by rw [wipe_length, k.len]; exact hlj)
      refine ⟨.ref a, vi, kV kk, vj, a, vv, rfl, .inl ⟨r, kk, .inr ⟨od, by rw [e, upd_ne (Ne.symm nDa)]; exact upd_same⟩, rfl, (valV_nodup nd' hkv).symm⟩, (r.map (·.2)).take m, by rw [e]; exact upd_same, ?_, ?_⟩
      · have hl : ((r.map (·.2)).take m).length ≤ r.length := by simp; omega
        have := t.length
        have z : (1000000 : Nat) ≤ sizeLine := by decide
        omega
      · rw [e]
        have e2 : (r.map (·.2)).take (m + 1) = (r.map (·.2)).take m ++ [vv] := by
          rw [List.take_add_one, List.getElem?_map, hkv]
          rfl
        rw [e2]
        funext b
        by_cases eb : b = D
        · subst eb; rw [upd_same, upd_same]
        · rw [upd_ne eb, upd_ne eb, upd_ne eb]
    · intro H' e
      refine ⟨by rw [e, upd_ne (Ne.symm nDa)]; exact upd_same, ?_⟩
      have e2 : upd H' a (.dK r) = upd H D (.lst (r.map (·.2))) := by
        rw [e]
        funext b
        by_cases eb : b = a
        · subst eb; rw [upd_same, upd_ne (Ne.symm nDa)]; exact h.symm
        · rw [upd_ne eb]
          by_cases ed : b = D
          · subst ed
            rw [upd_same, upd_same, List.take_of_length_le (by simp)]
          · rw [upd_ne ed, upd_ne ed, upd_ne eb]
      rw [e2]
      exact q D _ B _ (k.loose hD0 _) (Sub.refl B) (k.laid hD0 _) upd_same t.at.1⟩
end
end G
namespace G
open PySem L2 PySem.Spec PyProof.Rows
section
variable {X : Cx} {ρ : Env'} {pos : Pos}
theorem nv (i : Nat) {x : Str} {y : PyData} (hs : ρ[i]? = some (.d y) := by rfl) (hN : X.N[i]? = some x := by rfl) (hv : Vis X.env.scope x := by first | exact Or.inl rfl | exact Or.inr (Or.inl rfl) | exact Or.inr (Or.inr rfl)) (hd : (x == ("__debug__" : Str)) = false := by decide)
    (hcd : (x == ("__classdict__" : Str)) = false := by decide) : DE X ρ (.Name x pos) (.d y) ρ := de_name hs hN hv hd hcd
theorem ow (i : Nat) {x : Str} {b : Ob} (hs : ρ[i]? = some (.o b) := by rfl) (hN : X.N[i]? = some x := by rfl) (hv : Vis X.env.scope x := by first | exact Or.inl rfl | exact Or.inr (Or.inl rfl) | exact Or.inr (Or.inr rfl)) (hd : (x == ("__debug__" : Str)) = false := by decide)
    (hcd : (x == ("__classdict__" : Str)) = false := by decide) : DE X ρ (.Name x pos) (.o i) ρ := de_own hs hN hv hd hcd
variable {st : Stmt} {sts : List Stmt} {o : O} {ρ1 ρ2 : Env'} {e : Expr}
/-- the slots, said otherwise -/
theorem db_at (ρ2 : Env') (e : ρ = ρ2) (h : DB X ρ2 sts o) : DB X ρ sts o := e ▸ h
theorem de_at {r : R} (ρ2 : Env') (e' : ρ = ρ2) (h : DE X ρ2 e r ρ1) : DE X ρ e r ρ1 := e' ▸ h
theorem db_rt_is {d d' : PyData} (h : DB X ρ sts (.rt d ρ1)) (e : d = d') : DB X ρ sts (.rt d' ρ1) := e ▸ h
end
end G
namespace G
open PySem L2 PySem.Spec PyProof.Rows
section
variable {X : Cx} {ρ ρ' ρ1 ρ2 ρt ρe : Env'} {a b c e elt tg iter : Expr} {es : List Expr} {pos : Pos} {st : Stmt} {rest sts body : List Stmt} {o : O} {xs ys : List PyData}
theorem db_nx (h : DS X ρ st (.nx ρ1)) (w : Wk ρ1 ρ2 := by first | exact G.Wk.refl _ | (repeat (first | exact G.Wk.nil | apply G.Wk.cons | apply G.Wk.drop))) : DB X ρ [st] (.nx ρ2) := db_weak (db_one h) w
theorem db_end (w : Wk ρ ρ2 := by first | exact G.Wk.refl _ | (repeat (first | exact G.Wk.nil | apply G.Wk.cons | apply G.Wk.drop))) : DB X ρ [] (.nx ρ2) := db_weak db_nil w
/-- for, all turns go on -/
theorem ds_for (hp : PassesOwn (model X.prog X.w) X.A X.env X.xe) (hc : X.calm = true) (hi : DI X ρ tg iter xs ρ1) (ρs : Nat → Env') (h0 : Wk ρ1 (ρs 0))
    (turn : ∀ i x, xs[i]? = some x → ∃ ρt js, DG X (ρs i) tg x js ρt ∧ DB X ρt body (.nx (ρs (i + 1)))) (he : ρs xs.length = ρ2)
    (hs : ∀ x, foldedSetIterable iter X.env x = pure x := by intro _; rfl) : DS X ρ (.For tg iter body [] pos) (.nx ρ2) := by
  subst he
  refine for_goes hp hc hi ρs h0 (fun i x hx => ?_) hs
  obtain ⟨ρt, js, h1, h2⟩ := turn i x hx
  exact ⟨ρt, js, _, h1, .inl h2, .refl _⟩
theorem wipeE_at {vs : List Nat} {j : Nat} : (j ∈ vs → gS (wipeE ρ vs) j = .un) ∧ (j ∉ vs → gS (wipeE ρ vs) j = gS ρ j) := by
  induction vs with
  | nil => exact ⟨fun h => (nomatch h), fun _ => rfl⟩
  | cons v vs ih =>
    unfold wipeE
    rw [gS_set]
    by_cases e : j = v
    · subst e
      refine ⟨fun _ => ?_, fun h => absurd List.mem_cons_self h⟩
      split
      · rfl
      · rename_i h
        have hl : ¬ j < (wipeE ρ vs).length := by simpa using h
        unfold gS
        rw [List.getElem?_eq_none (Nat.le_of_not_lt hl)]; rfl
    · have : ¬ (j = v ∧ v < (wipeE ρ vs).length) := fun h => e h.1
      rw [if_neg this]
      refine ⟨fun h => ih.1 ((List.mem_cons.mp h).resolve_left e), fun h => ih.2 fun z => h (List.mem_cons_of_mem _ z)⟩
theorem wipeE_wk {vs : List Nat} (h : ∀ j ∈ vs, gS ρ j = .un) : Wk (wipeE ρ vs) ρ := ⟨wipeE_len vs, fun i => by
  by_cases m : i ∈ vs
  · exact .inr (h i m)
  · exact .inl (wipeE_at.2 m).symm⟩
theorem fm_map {α β : Type} (g : α → β) (xs : List α) : (List.range xs.length).filterMap (fun i => xs[i]?.bind fun x => some (g x)) = xs.map g := by
  rw [fm_at]
  induction xs with
  | nil => rfl
  | cons x xs ih => simp
/-- [elt for tg in iter], the parts change nothing -/
theorem dl_map {scope : Scope} (own : List (Str × Nat)) (g : PyData → PyData) (hc : X.calm = true) (hN : X.N.Nodup) (ok : BlkOk X.N X.env.scope scope own) (hi : DI X ρ tg iter xs ρ1) (hv : ∀ j ∈ own.map (·.2), gS ρ1 j = .un)
    (turn : ∀ x ∈ xs, ∃ ρt js ρe, (Blk X scope fun Y => DG Y ρ1 tg x js ρt) ∧ (Blk X scope fun Y => DE Y ρt elt (.d (g x)) ρe) ∧ (∀ j ∈ js, j ∈ own.map (·.2)) ∧ Wk ρe ρ1) (hz : xs.length ≤ sizeLine)
    (hs : ∀ x, foldedSetIterable iter X.env x = pure x := by intro _; rfl) : DL X ρ (.ListComp elt [⟨tg, iter, [], 0⟩] scope pos) (xs.map g) ρ1 := by
  rw [← fm_map g xs]
  refine dl_lc hc hN ok hi (fun _ => ρ1) _ (fun i x hx => ?_) (wipeE_wk hv) (fun _ => wipeE_wk hv) (mrg_un rfl hv) hz hs
  obtain ⟨ρt, js, ρe, h1, h2, h3, h4⟩ := turn x (List.mem_of_getElem? hx)
  rw [hx]
  exact LcT.map h3 h1 h2 h4
theorem fm_filt {α β : Type} (p : α → Bool) (g : α → β) (xs : List α) : (List.range xs.length).filterMap (fun i => xs[i]?.bind fun x => if p x then some (g x) else none) = (xs.filter p).map g := by
  rw [fm_at]
  induction xs with
  | nil => rfl
  | cons x xs ih =>
    rw [List.filterMap_cons, List.filter_cons, ih]
    cases p x <;> rfl
/-- [elt for tg in iter if c], the parts change nothing -/
theorem lc_filt_turn {scope : Scope} {own : List (Str × Nat)} {x : PyData} {p : PyData → Bool} {g : PyData → PyData} {js : List Nat} {ρa : Env'} (h1 : Blk X scope fun Y => DG Y ρ1 tg x js ρt) (h2 : Blk X scope fun Y => DT Y ρt c (p x) ρa)
    (h3 : p x = true → Blk X scope fun Y => DE Y ρa elt (.d (g x)) ρe) (hj : ∀ j ∈ js, j ∈ own.map (·.2)) (w : Wk ρe ρ1) (w' : Wk ρa ρ1) : LcT X scope (own.map (·.2)) tg [c] elt x ρ1 (if p x then some (g x) else none) ρ1 :=
  LcT.iff hj h1 h2 h3 (fun _ => w) (fun _ => w')
theorem dl_filt {scope : Scope} (own : List (Str × Nat)) (p : PyData → Bool) (g : PyData → PyData) (hc : X.calm = true) (hN : X.N.Nodup) (ok : BlkOk X.N X.env.scope scope own) (hi : DI X ρ tg iter xs ρ1) (hv : ∀ j ∈ own.map (·.2), gS ρ1 j = .un)
    (turn : ∀ x ∈ xs, LcT X scope (own.map (·.2)) tg [c] elt x ρ1 (if p x then some (g x) else none) ρ1) (hz : xs.length ≤ sizeLine)
    (hs : ∀ x, foldedSetIterable iter X.env x = pure x := by intro _; rfl) : DL X ρ (.ListComp elt [⟨tg, iter, [c], 0⟩] scope pos) ((xs.filter p).map g) ρ1 := by
  rw [← fm_filt p g xs]
  refine dl_lc hc hN ok hi (fun _ => ρ1) _ (fun i x hx => ?_) (wipeE_wk hv) (fun _ => wipeE_wk hv) (mrg_un rfl hv) hz hs
  rw [hx]
  exact turn x (List.mem_of_getElem? hx)
/-- x = [elt for tg in iter if c], swapped into its place -/
theorem ds_setFilt {i : Nat} {y : Str} {py spos : Pos} {s0 : Sl} {scope : Scope} (own : List (Str × Nat)) (p : PyData → Bool) (g : PyData → PyData) (hc : X.calm = true) (hN : X.N.Nodup) (ok : BlkOk X.N X.env.scope scope own)
    (hi : DI X ρ tg iter xs ρ1) (hv : ∀ j ∈ own.map (·.2), gS ρ1 j = .un)
    (turn : ∀ x ∈ xs, LcT X scope (own.map (·.2)) tg [c] elt x ρ1 (if p x then some (g x) else none) ρ1) (hz : xs.length ≤ sizeLine)
    (hsw : swapsWith (.ListComp elt [⟨tg, iter, [c], 0⟩] scope pos) (some (.Name y py)) spos.line X.env = pure true := by rfl)
    (hr : ρ1[i]? = some s0 := by rfl) (hy : X.N[i]? = some y := by rfl) (hyl : X.env.scope.names.lookup y = some .local := by rfl) (hs : ∀ x, foldedSetIterable iter X.env x = pure x := by intro _; rfl) :
    DS X ρ (.Assign [.Name y py] (.ListComp elt [⟨tg, iter, [c], 0⟩] scope pos) spos) (.nx (ρ1.set i (.o (.lst ((xs.filter p).map g))))) := by
  rw [← fm_filt p g xs]
  refine ds_setLc hc hN ok hsw hi (fun _ => ρ1) _ (fun i x hx => ?_) (wipeE_wk hv) (fun _ => wipeE_wk hv) (mrg_un rfl hv) hz hr hy hyl hs
  rw [hx]
  exact turn x (List.mem_of_getElem? hx)
theorem ds_setMap {i : Nat} {y : Str} {py spos : Pos} {s0 : Sl} {scope : Scope} (own : List (Str × Nat)) (g : PyData → PyData) (hc : X.calm = true) (hN : X.N.Nodup) (ok : BlkOk X.N X.env.scope scope own)
    (hi : DI X ρ tg iter xs ρ1) (hv : ∀ j ∈ own.map (·.2), gS ρ1 j = .un)
    (turn : ∀ x ∈ xs, ∃ ρt js ρe, (Blk X scope fun Y => DG Y ρ1 tg x js ρt) ∧ (Blk X scope fun Y => DE Y ρt elt (.d (g x)) ρe) ∧ (∀ j ∈ js, j ∈ own.map (·.2)) ∧ Wk ρe ρ1) (hz : xs.length ≤ sizeLine)
    (hsw : swapsWith (.ListComp elt [⟨tg, iter, [], 0⟩] scope pos) (some (.Name y py)) spos.line X.env = pure true := by rfl)
    (hr : ρ1[i]? = some s0 := by rfl) (hy : X.N[i]? = some y := by rfl) (hyl : X.env.scope.names.lookup y = some .local := by rfl) (hs : ∀ x, foldedSetIterable iter X.env x = pure x := by intro _; rfl) :
    DS X ρ (.Assign [.Name y py] (.ListComp elt [⟨tg, iter, [], 0⟩] scope pos) spos) (.nx (ρ1.set i (.o (.lst (xs.map g))))) := by
  rw [← fm_map g xs]
  refine ds_setLc hc hN ok hsw hi (fun _ => ρ1) _ (fun i x hx => ?_) (wipeE_wk hv) (fun _ => wipeE_wk hv) (mrg_un rfl hv) hz hr hy hyl hs
  obtain ⟨ρt, js, ρe, h1, h2, h3, h4⟩ := turn x (List.mem_of_getElem? hx)
  rw [hx]
  exact LcT.map h3 h1 h2 h4
end
end G
namespace G
open PySem L2 PySem.Spec PyProof.Rows
section
variable {X : Cx} {ρ ρ' ρ1 ρ2 : Env'} {a b c e : Expr} {pos : Pos} {st : Stmt} {rest sts as bs : List Stmt} {o : O} {d : PyData}
theorem db_ifT (h : DT X ρ c true ρ1) (h1 : DB X ρ1 as (.rt d ρ')) : DB X ρ (.If c as [] pos :: rest) (.rt d ρ') := db_if h (fun _ => h1) (fun z => nomatch z) fun _ _ z => nomatch z
theorem db_ifF (h : DT X ρ c false ρ1) (h1 : DB X ρ1 rest o) : DB X ρ (.If c as [] pos :: rest) o := db_if h (fun z => nomatch z) (fun _ => h1) fun z => nomatch z
theorem ds_ifT (h : DT X ρ c true ρ1) (h1 : DB X ρ1 as o) : DS X ρ (.If c as bs pos) o := ds_if h (fun _ => h1) fun z => nomatch z
theorem ds_ifF (h : DT X ρ c false ρ1) (h1 : DB X ρ1 bs o) : DS X ρ (.If c as bs pos) o := ds_if h (fun z => nomatch z) fun _ => h1
theorem dt_eqIt {i j : Int} (h : i = j) (ha : DE X ρ a (.d (.int i)) ρ1) (hb : DE X ρ1 b (.d (.int j)) ρ2) : DT X ρ (.Compare a [.Eq] [b] pos) true ρ2 := dt_is (dt_eqI ha hb) (decide_eq_true h)
theorem dt_eqIf {i j : Int} (h : i ≠ j) (ha : DE X ρ a (.d (.int i)) ρ1) (hb : DE X ρ1 b (.d (.int j)) ρ2) : DT X ρ (.Compare a [.Eq] [b] pos) false ρ2 := dt_is (dt_eqI ha hb) (decide_eq_false h)
theorem dt_ltT {i j : Int} (h : i < j) (ha : DE X ρ a (.d (.int i)) ρ1) (hb : DE X ρ1 b (.d (.int j)) ρ2) : DT X ρ (.Compare a [.Lt] [b] pos) true ρ2 := dt_is (dt_lt ha hb) (decide_eq_true h)
theorem dt_ltF {i j : Int} (h : ¬ i < j) (ha : DE X ρ a (.d (.int i)) ρ1) (hb : DE X ρ1 b (.d (.int j)) ρ2) : DT X ρ (.Compare a [.Lt] [b] pos) false ρ2 := dt_is (dt_lt ha hb) (decide_eq_false h)
end
end G

set_option Elab.async false
set_option linter.all false
set_option maxRecDepth 100000
set_option maxHeartbeats 4000000
/- a source whose cells have a name of their own for a while -/
namespace G
open PySem L2 PySem.Spec PyProof.Rows
section
variable {K : PySem.W.Frag} {F : Hp} {Z : Addr → Prop} {B H : Hp} {σ : L2.St} {ρ : Env'}
theorem Ok.ownAt (k : Ok K F Z B H σ ρ) {own : Nat → List Addr} (h3 : ∀ i, SlAt K B H (gV σ i) (own i) (gS ρ i)) {i : Nat} {b : Ob} {v : V} {as : List Addr} (hs : gS ρ i = .o b) (hv : gV σ i = some v) (h : ObAt K B H v as b) : own i = as := by
  have q := h3 i
  rw [hs, hv] at q
  generalize own i = os at q
  cases q with
  | o q => exact ObAt.uni q h fun _ _ => rfl
theorem Ok.split (k : Ok K F Z B H σ ρ) {i j : Nat} {a l : Addr} {st : Src} (hs : gS ρ i = .o (.src a st)) (hv : gV σ i = some (.ref a)) (hij : i ≠ j) (hj : j < ρ.length) (n : a ≠ l) (h1 : H a = some (.dK (srcKvs l st))) (h2 : H l = some (.lst (st.cells.map V.int))) :
    Ok K F Z B H (σ.set j (some (.ref l))) ((ρ.set i (.o (.srd a l st))).set j (.o (.lsA l st.cells))) := by
  obtain ⟨own, o1, o2, o3⟩ := k.own
  have oi : own i = [a, l] := k.ownAt o3 hs hv (.src n h1 h2)
  have hi : i < ρ.length := by
    rcases Nat.lt_or_ge i ρ.length with z | z
    · exact z
    · unfold gS at hs; rw [List.getElem?_eq_none z] at hs; cases hs
  have ma : a ∈ own i := by rw [oi]; simp
  have ml : l ∈ own i := by rw [oi]; simp
  refine ⟨k.exF, k.exB, k.z, by simp [k.len], fun m => if m = j then [l] else if m = i then [a] else own m, fun m b hb => ?_, fun m m' b hb hb' => ?_, fun m => ?_⟩
  · dsimp only at hb
    split at hb
    · rw [List.mem_singleton.mp hb]; exact o1 i l ml
    · split at hb
      · rw [List.mem_singleton.mp hb]; exact o1 i a ma
      · exact o1 m b hb
  · dsimp only at hb hb'
    have key : ∀ m, b ∈ (if m = j then [l] else if m = i then [a] else own m) → (m = j ∧ b = l) ∨ (m = i ∧ b = a) ∨ (m ≠ j ∧ m ≠ i ∧ b ∈ own m) := fun m h => by
      split at h
      · exact .inl ⟨by assumption, List.mem_singleton.mp h⟩
      · split at h
        · exact .inr (.inl ⟨by assumption, List.mem_singleton.mp h⟩)
        · exact .inr (.inr ⟨by assumption, by assumption, h⟩)
    rcases key m hb with ⟨e1, e2⟩ | ⟨e1, e2⟩ | ⟨e1, e2, e3⟩ <;> rcases key m' hb' with ⟨f1, f2⟩ | ⟨f1, f2⟩ | ⟨f1, f2, f3⟩
    · rw [e1, f1]
    · exact absurd (f2.symm.trans e2) n
    · exact absurd (o2 m' i b f3 (by rw [e2]; exact ml)) f2
    · exact absurd (e2.symm.trans f2) n
    · rw [e1, f1]
    · exact absurd (o2 m' i b f3 (by rw [e2]; exact ma)) f2
    · exact absurd (o2 m i b e3 (by rw [f2]; exact ml)) e2
    · exact absurd (o2 m i b e3 (by rw [f2]; exact ma)) e2
    · exact o2 m m' b e3 f3
  · rw [gS_set, gV_set, gS_set, List.length_set, k.len]
    dsimp only
    by_cases e : m = j
    · rw [if_pos e, if_pos (And.intro e hj), if_pos (And.intro e hj)]
      exact .o (.lsA h2)
    · have ne : ¬ (m = j ∧ j < ρ.length) := fun z => e z.1
      rw [if_neg e, if_neg ne, if_neg ne]
      by_cases e' : m = i
      · rw [if_pos e', if_pos (And.intro e' hi), e', hv]
        exact .o (.srd n h1)
      · have ne' : ¬ (m = i ∧ i < ρ.length) := fun z => e' z.1
        rw [if_neg e', if_neg ne']
        exact o3 m
theorem Ok.join (k : Ok K F Z B H σ ρ) {i j : Nat} {a l : Addr} {st : Src} {xs : List Int} (hs : gS ρ i = .o (.srd a l st)) (hs2 : gS ρ j = .o (.lsA l xs)) : Ok K F Z B H σ ((ρ.set i (.o (.src a { st with cells := xs }))).set j .un) := by
  obtain ⟨own, o1, o2, o3⟩ := k.own
  obtain ⟨v, as, g1, g2, g3⟩ := k.ob hs
  obtain ⟨v2, as2, f1, f2, f3⟩ := k.ob hs2
  have oi := k.ownAt o3 hs g1 g2
  have oj := k.ownAt o3 hs2 f1 f2
  cases g2 with
  | srd n h1 =>
  cases f2 with
  | lsA h2 =>
  have hij : i ≠ j := fun e => by rw [e, hs2] at hs; cases hs
  have hi : i < ρ.length := by
    rcases Nat.lt_or_ge i ρ.length with z | z
    · exact z
    · unfold gS at hs; rw [List.getElem?_eq_none z] at hs; cases hs
  have hj : j < ρ.length := by
    rcases Nat.lt_or_ge j ρ.length with z | z
    · exact z
    · unfold gS at hs2; rw [List.getElem?_eq_none z] at hs2; cases hs2
  have ma : a ∈ own i := by rw [oi]; simp
  have ml : l ∈ own j := by rw [oj]; simp
  refine ⟨k.exF, k.exB, k.z, by simp [k.len], fun m => if m = j then [] else if m = i then [a, l] else own m, fun m b hb => ?_, fun m m' b hb hb' => ?_, fun m => ?_⟩
  · dsimp only at hb
    split at hb
    · cases hb
    · split at hb
      · rcases List.mem_cons.mp hb with e | e
        · rw [e]; exact o1 i a ma
        · rw [List.mem_singleton.mp e]; exact o1 j l ml
      · exact o1 m b hb
  · dsimp only at hb hb'
    have key : ∀ m, b ∈ (if m = j then [] else if m = i then [a, l] else own m) → (m = i ∧ (b = a ∨ b = l)) ∨ (m ≠ j ∧ m ≠ i ∧ b ∈ own m) := fun m h => by
      split at h
      · cases h
      · split at h
        · exact .inl ⟨by assumption, by simpa using h⟩
        · exact .inr ⟨by assumption, by assumption, h⟩
    have cross : ∀ {m}, m ≠ j → m ≠ i → b ∈ own m → ¬ (b = a ∨ b = l) := fun {m} n1 n2 h z => by
      rcases z with z | z
      · exact n2 (o2 m i b h (by rw [z]; exact ma))
      · exact n1 (o2 m j b h (by rw [z]; exact ml))
    rcases key m hb with ⟨e1, e2⟩ | ⟨e1, e2, e3⟩ <;> rcases key m' hb' with ⟨f1, f2⟩ | ⟨f1, f2, f3⟩
    · rw [e1, f1]
    · exact absurd e2 (cross f1 f2 f3)
    · exact absurd f2 (cross e1 e2 e3)
    · exact o2 m m' b e3 f3
  · rw [gS_set, gS_set, List.length_set]
    dsimp only
    by_cases e : m = j
    · rw [if_pos e, if_pos (And.intro e hj)]
      exact .un
    · have ne : ¬ (m = j ∧ j < ρ.length) := fun z => e z.1
      rw [if_neg e, if_neg ne]
      by_cases e' : m = i
      · rw [if_pos e', if_pos (And.intro e' hi), e', g1]
        exact .o (.src n h1 h2)
      · have ne' : ¬ (m = i ∧ i < ρ.length) := fun z => e' z.1
        rw [if_neg e', if_neg ne']
        exact o3 m
end
section
variable {X : Cx} {ρ ρ' ρ1 ρ2 ρ3 : Env'} {a b c e : Expr} {es : List Expr} {pos p p1 p2 p3 : Pos} {i : Nat} {sa : Addr} {st : Src} {rest sts : List Stmt} {o : O}
theorem db_join {j : Nat} {l : Addr} {xs : List Int} (t : DB X ((ρ.set i (.o (.src sa { st with cells := xs }))).set j .un) sts o) (hs : ρ[i]? = some (.o (.srd sa l st)) := by rfl) (hs2 : ρ[j]? = some (.o (.lsA l xs)) := by rfl) : DB X ρ sts o := fun F Z B H σ D k q =>
  t F Z B H σ D (k.join (gS_some hs) (gS_some hs2)) q
/-- cells = source["cells"] -/
theorem db_split {j : Nat} {y : Str} {jj} {s0 : Sl} {pos' : Pos} (hu : X.A.units + 100 < cLine) (hN : X.N.Nodup) (h : DE X ρ e (.o i) ρ) (hij : i ≠ j) (t : ∀ l, DB X ((ρ.set i (.o (.srd sa l st))).set j (.o (.lsA l st.cells))) rest o) (hs : ρ[i]? = some (.o (.src sa st)) := by rfl) (hr : ρ[j]? = some s0 := by rfl)
    (hi : X.N[j]? = some y := by rfl) (hx : Loc X.env.scope y := by first | exact Or.inl rfl | exact Or.inr rfl) (hsl : NoSl (.Constant (.str "cells") jj p1) := by intro _ _; rfl)
    (hsw : swapsWith (.Subscript e (.Constant (.str "cells") jj p1) p2) (some (.Name y pos')) pos.line X.env = pure false := by rfl) (hf : X.fn y = true ∨ X.env.scope.names.lookup y = some .local := by first | exact .inl rfl | exact .inr rfl) :
    DB X ρ (.Assign [.Name y pos'] (.Subscript e (.Constant (.str "cells") jj p1) p2) pos :: rest) o := fun F Z B H σ D k q =>
  ⟨_, pss_cons (ps_set hN hi hx (pe_dget (by omega) pe_s pe_str hsl) hsw hf) pb_s, h F Z B H σ _ k fun v B1 H1 k1 x1 w => by
    obtain ⟨v', as, g1, g2, _⟩ := k1.ob (gS_some hs)
    have w' : gV σ i = some v := w
    rw [w'] at g1
    cases g1
    cases g2 with
    | @src _ l _ n1 n2 n3 =>
    have g := DGet.k (k := kCells) n2
    rw [src_cells] at g
    exact ⟨sa, .ref l, rfl, g, t l F Z B1 H1 _ D (k1.split (gS_some hs) w' hij (List.getElem?_eq_some_iff.mp hr).1 n1 n2 n3) (q.sub x1)⟩⟩
theorem de_srdGet {key : Str} {n : Int} {jj} {l : Addr} (hu : X.A.units + 100 < cLine) (hv : ∀ l, valV (srcKvs l st) (.inr key) = some (.int n)) (h : DE X ρ e (.o i) ρ1) (hs : ρ1[i]? = some (.o (.srd sa l st)) := by rfl) (hsl : NoSl (.Constant (.str key) jj p1) := by intro _ _; rfl) :
    DE X ρ (.Subscript e (.Constant (.str key) jj p1) pos) (.d (.int n)) ρ1 := fun F Z B H σ Q k q =>
  ⟨_, pe_dget (by omega) pe_s pe_str hsl, h F Z B H σ _ k fun v B1 H1 k1 x1 w => by
    obtain ⟨v', as, g1, g2, _⟩ := k1.ob (gS_some hs)
    have w' : gV σ i = some v := w
    rw [w'] at g1
    cases g1
    cases g2 with
    | srd n1 n2 =>
    refine ⟨sa, .int n, rfl, ?_, q _ B1 H1 k1 x1 (.int n)⟩
    have g := DGet.k (k := (.inr key : Key)) n2
    rw [hv l] at g
    exact g⟩
/-- len(cells) -/
theorem de_lenA {l : Addr} {xs : List Int} (hm : X.mg "len" = none) (h : DE X ρ e (.o i) ρ1) (hs : ρ1[i]? = some (.o (.lsA l xs)) := by rfl) (hg : Gl X "len" := by rfl)
    (he : starEach [e] X.env = (false, eval e X.env) :: starEach [] X.env := by rfl) (hpl : (backTo pos (starEach [] X.env)).any (·.1) = false := by rfl) : DE X ρ (.Call (.Name "len" p) [e] [] pos) (.d (.int xs.length)) ρ1 := fun F Z B H σ Q k q =>
  ⟨_, pe_callB call_len_seq hg hm PySem.boot_len (pa_cons pe_s pa_nil he) (by decide) (by decide) he hpl, h F Z B H σ _ k fun v B1 H1 k1 x1 w => by
    obtain ⟨v', as, g1, g2, _⟩ := k1.ob (gS_some hs)
    have w' : gV σ i = some v := w
    rw [w'] at g1
    cases g1
    cases g2 with
    | lsA n1 => exact ⟨l, _, rfl, .inl (SqL.of n1), by rw [List.length_map]; exact q _ B1 H1 k1 x1 (.int _)⟩⟩
/-- source["left"] = cells.pop() -/
theorem ds_popA {j : Nat} {jj2} {l : Addr} {cs : List Int} {n : Int} {apos pos' : Pos} (hu : X.A.units + 100 < cLine) (hij : i ≠ j) (h : DE X ρ e (.o j) ρ) (h2 : DE X (ρ.set j (.o (.lsA l cs))) a (.o i) (ρ.set j (.o (.lsA l cs)))) (hs : ρ[j]? = some (.o (.lsA l (cs ++ [n]))) := by rfl) (hs2 : (ρ.set j (.o (.lsA l cs)))[i]? = some (.o (.srd sa l st)) := by rfl)
    (hbase : attributeBase e "pop" X.env (eval e X.env) = eval e X.env := by rfl) (hline : (apos.endLine == p3.line) = true := by rfl)
    (hsw : swapsWith (.Call (.Attribute e "pop" apos) [] [] p3) (some (.Subscript a (.Constant (.str "left") jj2 p) pos')) pos.line X.env = pure false := by rfl) :
    DS X ρ (.Assign [.Subscript a (.Constant (.str "left") jj2 p) pos'] (.Call (.Attribute e "pop" apos) [] [] p3) pos) (.nx ((ρ.set j (.o (.lsA l cs))).set i (.o (.srd sa l { st with left := n })))) := fun F Z B H σ D k q =>
  ⟨_, ps_dput (by omega) pe_s pe_str (pe_bm0 PySem.F.plainAttrs_list PySem.F.slot_list_pop PySem.F.type_list_pop mt_pop pe_s hbase hline) hsw, h F Z B H σ _ k fun v B1 H1 k1 x1 w => by
    obtain ⟨v', as, g1, g2, _⟩ := k1.ob (gS_some hs)
    have w' : gV σ j = some v := w
    rw [w'] at g1
    cases g1
    have dn0 := g2
    cases g2 with
    | lsA n1 =>
    have e1 : (cs ++ [n]).map V.int = cs.map V.int ++ [V.int n] := by simp
    rw [e1] at n1
    refine ⟨.inl ⟨rfl, _, SqL.of n1⟩, l, _, .int n, rfl, rfl, n1, by simp, ?_⟩
    have e2 : (cs.map V.int ++ [V.int n]).dropLast = cs.map V.int := by simp
    rw [e2]
    have k2 := k1.turn (H' := upd H1 l (.lst (cs.map V.int))) (b' := .lsA l cs) (gS_some hs) w' dn0 (.lsA upd_same) fun b hb => by
      rw [upd_ne fun z => hb (by rw [z]; exact List.mem_singleton.mpr rfl)]
    refine h2 F Z B1 _ σ _ k2 fun o B3 H3 k3 x3 w3 => ?_
    obtain ⟨v', as, g1, g2, _⟩ := k3.ob (gS_some hs2)
    have w3' : gV σ i = some o := w3
    rw [w3'] at g1
    cases g1
    have dn1 := g2
    cases g2 with
    | srd m1 m2 =>
    have hz : (srcKvs l st).length < sizeLine := by rw [sizeLine_eq]; show 4 < 16777216; omega
    have gp := DPut.k (k := kLeft) (v := .int n) m2 hz
    rw [put_left] at gp
    refine ⟨sa, _, rfl, gp, ?_⟩
    have k4 := k3.turn (H' := upd H3 sa (.dK (srcKvs l { st with left := n }))) (b' := .srd sa l { st with left := n }) (gS_some hs2) w3' dn1 (.srd m1 upd_same) fun b hb => by
      rw [upd_ne fun z => hb (by rw [z]; exact List.mem_singleton.mpr rfl)]
    exact q B3 _ σ k4 (x1.trans x3)⟩
end
end G

set_option Elab.async false
set_option linter.all false
set_option maxRecDepth 100000
set_option maxHeartbeats 4000000
/- types of words: sorted sets of triples -/
namespace G
open PySem PySem.W PyProof.Rows
theorem datas_map : ∀ ks : List NestedKey, NestedKey.datas ks = ks.map NestedKey.data
  | [] => by simp [NestedKey.datas]
  | k :: ks => by rw [NestedKey.datas, datas_map ks]; rfl
mutual
theorem nk_eqv : ∀ a b : NestedKey, PyData.eqv a.data b.data = true → a = b
  | .none, b, h => by cases b <;> simp [NestedKey.data, PyData.eqv] at h ⊢
  | .num i, b, h => by
    cases b with
    | num j => simp [NestedKey.data, PyData.eqv] at h; rw [h]
    | none => simp [NestedKey.data, PyData.eqv] at h
    | text _ => simp [NestedKey.data, PyData.eqv] at h
    | tup _ => simp [NestedKey.data, PyData.eqv] at h
  | .text x, b, h => by
    cases b with
    | text y => simp [NestedKey.data, PyData.eqv] at h; rw [h]
    | none => simp [NestedKey.data, PyData.eqv] at h
    | num _ => simp [NestedKey.data, PyData.eqv] at h
    | tup _ => simp [NestedKey.data, PyData.eqv] at h
  | .tup as, b, h => by
    cases b with
    | tup bs =>
      simp only [NestedKey.data, PyData.eqv] at h
      rw [nk_eqvAll as bs h]
    | none => simp [NestedKey.data, PyData.eqv] at h
    | num _ => simp [NestedKey.data, PyData.eqv] at h
    | text _ => simp [NestedKey.data, PyData.eqv] at h
theorem nk_eqvAll : ∀ as bs : List NestedKey, PyData.eqvAll (NestedKey.datas as) (NestedKey.datas bs) = true → as = bs
  | [], [], _ => rfl
  | [], _ :: _, h => by simp [NestedKey.datas, PyData.eqvAll] at h
  | _ :: _, [], h => by simp [NestedKey.datas, PyData.eqvAll] at h
  | a :: as, b :: bs, h => by
    simp only [NestedKey.datas, PyData.eqvAll, Bool.and_eq_true] at h
    rw [nk_eqv a b h.1, nk_eqvAll as bs h.2]
end
mutual
theorem nk_self : ∀ a : NestedKey, PyData.eqv a.data a.data = true
  | .none => by simp [NestedKey.data, PyData.eqv]
  | .num _ => by simp [NestedKey.data, PyData.eqv]
  | .text _ => by simp [NestedKey.data, PyData.eqv]
  | .tup as => by simp only [NestedKey.data, PyData.eqv]; exact nk_selfAll as
theorem nk_selfAll : ∀ as : List NestedKey, PyData.eqvAll (NestedKey.datas as) (NestedKey.datas as) = true
  | [] => by simp [NestedKey.datas, PyData.eqvAll]
  | a :: as => by simp only [NestedKey.datas, PyData.eqvAll, nk_self a, nk_selfAll as]; rfl
end
theorem eqv_nk (a b : NestedKey) : PyData.eqv a.data b.data = decide (a = b) := by
  cases h : PyData.eqv a.data b.data with
  | true => exact (decide_eq_true (nk_eqv a b h)).symm
  | false => exact (decide_eq_false fun e => by subst e; rw [nk_self] at h; cases h).symm
theorem nk_inj {a b : NestedKey} (h : a.data = b.data) : a = b := nk_eqv a b (by rw [h]; exact nk_self b)

/-! ### sorted sets of keys -/
def sortK (ks : List NestedKey) : List NestedKey := ks.mergeSort fun a b => dataLe false id a.data b.data
theorem sortK_data (ks : List NestedKey) : (sortK ks).map NestedKey.data = sortD (ks.map NestedKey.data) := List.map_mergeSort fun _ _ _ _ => rfl
theorem mem_sortK {k : NestedKey} {ks : List NestedKey} : k ∈ sortK ks ↔ k ∈ ks := (List.mergeSort_perm _ _).mem_iff
theorem dle_eq (a b : PyData) : dataLe false id a b = !dataLt b a := rfl
theorem dlt_asymm (a b : PyData) (h : dataLt a b = true) : dataLt b a = false := by
  cases e : dataLt b a with
  | false => rfl
  | true =>
    have q := (listOrd itemOrd).trans _ _ _ h e
    rw [(listOrd itemOrd).irrefl] at q
    cases q
theorem dle_trans (a b c : PyData) (h1 : dataLe false id a b = true) (h2 : dataLe false id b c = true) : dataLe false id a c = true := by
  rw [dle_eq] at *
  have h1' : dataLt b a = false := by simpa using h1
  have h2' : dataLt c b = false := by simpa using h2
  have q : dataLt c a = false := KeyOrd.kle_trans (O := listOrd itemOrd) (a := keyToks a) (b := keyToks b) (c := keyToks c) h1' h2'
  rw [q]; rfl
theorem dle_total (a b : PyData) : (dataLe false id a b || dataLe false id b a) = true := by
  rw [dle_eq, dle_eq]
  cases e : dataLt b a with
  | false => rfl
  | true => rw [dlt_asymm b a e]; rfl
theorem toks_inj {x y : PyData} (h : alike x y = true) (e : keyToks x = keyToks y) : PyData.eqv x y = true := by
  cases q : PyData.eqv x y with
  | true => rfl
  | false =>
    have z := (toks_eqv x y h).2 q [.inl 0] [.inl 1]
    rw [e, lex_pre, lex_irrefl] at z
    have z2 : PyProof.Rows.lexLt itemOrd [Sum.inl 0] [Sum.inl 1] = true := by decide
    rw [z2] at z
    cases z
theorem dle_antisymm {a b : NestedKey} (h : alike a.data b.data = true) (h1 : dataLe false id a.data b.data = true) (h2 : dataLe false id b.data a.data = true) : a = b := by
  rw [dle_eq] at *
  have h1' : dataLt b.data a.data = false := by simpa using h1
  have h2' : dataLt a.data b.data = false := by simpa using h2
  exact nk_eqv a b (toks_inj h ((listOrd itemOrd).total _ _ h2' h1'))
theorem sortK_ext {xs ys : List NestedKey} (hx : xs.Nodup) (hy : ys.Nodup) (hm : ∀ k, k ∈ xs ↔ k ∈ ys) (ha : ∀ a ∈ xs, ∀ b ∈ xs, alike a.data b.data = true) : sortK xs = sortK ys := by
  have p : (sortK xs).Perm (sortK ys) := ((List.mergeSort_perm _ _).trans ((List.perm_ext_iff_of_nodup hx hy).mpr hm)).trans (List.mergeSort_perm _ _).symm
  refine List.Perm.eq_of_pairwise (le := fun a b => dataLe false id a.data b.data = true) (fun a b h1 h2 l1 l2 => dle_antisymm (ha a (mem_sortK.mp h1) b ((hm b).mpr (mem_sortK.mp h2))) l1 l2) ?_ ?_ p
  · exact List.pairwise_mergeSort (le := fun a b : NestedKey => dataLe false id a.data b.data) (fun a b c => dle_trans a.data b.data c.data) (fun a b => dle_total a.data b.data) xs
  · exact List.pairwise_mergeSort (le := fun a b : NestedKey => dataLe false id a.data b.data) (fun a b c => dle_trans a.data b.data c.data) (fun a b => dle_total a.data b.data) ys

/-! ### sets, in the order in which they come -/
def addK (ks : List NestedKey) (k : NestedKey) : List NestedKey := if k ∈ ks then ks else ks ++ [k]
def setK (f : Nat → NestedKey) : Nat → List NestedKey
  | 0 => []
  | i + 1 => addK (setK f i) (f i)
theorem mem_addK {k k' : NestedKey} {ks : List NestedKey} : k ∈ addK ks k' ↔ k ∈ ks ∨ k = k' := by
  unfold addK
  split
  · rename_i h
    exact ⟨.inl, fun q => q.elim id fun e => e ▸ h⟩
  · simp
theorem addK_nodup {k : NestedKey} {ks : List NestedKey} (h : ks.Nodup) : (addK ks k).Nodup := by
  unfold addK
  split
  · exact h
  · rename_i hn
    rw [List.nodup_append]
    refine ⟨h, by simp, fun a ha b hb e => ?_⟩
    have : b = k := by simpa using hb
    exact hn (by rw [← this, ← e]; exact ha)
theorem addK_len {k : NestedKey} {ks : List NestedKey} : (addK ks k).length ≤ ks.length + 1 := by
  unfold addK
  split <;> simp
theorem mem_setK {k : NestedKey} {f : Nat → NestedKey} : ∀ {n : Nat}, k ∈ setK f n ↔ ∃ i, i < n ∧ f i = k
  | 0 => by simp [setK]
  | n + 1 => by
    unfold setK
    rw [mem_addK, mem_setK]
    constructor
    · rintro (⟨i, h, e⟩ | e)
      · exact ⟨i, by omega, e⟩
      · exact ⟨n, by omega, e.symm⟩
    · rintro ⟨i, h, e⟩
      by_cases hi : i = n
      · subst hi; exact .inr e.symm
      · exact .inl ⟨i, by omega, e⟩
theorem setK_nodup {f : Nat → NestedKey} : ∀ n : Nat, (setK f n).Nodup
  | 0 => by simp [setK]
  | n + 1 => addK_nodup (setK_nodup n)
theorem setK_len {f : Nat → NestedKey} : ∀ n : Nat, (setK f n).length ≤ n
  | 0 => by simp [setK]
  | n + 1 => Nat.le_trans addK_len (Nat.succ_le_succ (setK_len n))

/-! ### types of words -/
def keyK (T : List Int → NestedKey) (w : List Int) (i : Nat) : NestedKey := .tup [T (w.take i), .num (w.getD i 0), T (w.drop (i + 1))]
def tyK : Nat → List Int → NestedKey
  | 0, _ => .tup []
  | r + 1, w => .tup (sortK (setK (keyK (tyK r) w) w.length))
theorem alikeAll_of : ∀ {xs ys : List NestedKey}, (∀ a ∈ xs, ∀ b ∈ ys, alike a.data b.data = true) → alikeAll (NestedKey.datas xs) (NestedKey.datas ys) = true
  | [], _, _ => by simp [NestedKey.datas, alikeAll]
  | _ :: _, [], _ => by simp [NestedKey.datas, alikeAll]
  | x :: xs, y :: ys, h => by
    simp only [NestedKey.datas, alikeAll, h x List.mem_cons_self y List.mem_cons_self, alikeAll_of fun a ha b hb => h a (List.mem_cons_of_mem _ ha) b (List.mem_cons_of_mem _ hb)]
    rfl
theorem alike_key {T T' : List Int → NestedKey} (h : ∀ u v, alike (T u).data (T' v).data = true) (u v : List Int) (i j : Nat) : alike (keyK T u i).data (keyK T' v j).data = true := by
  unfold keyK
  simp only [NestedKey.data, NestedKey.datas, alike, alikeAll, h, Bool.and_self]
theorem alike_ty : ∀ (r : Nat) (u v : List Int), alike (tyK r u).data (tyK r v).data = true
  | 0, u, v => by simp [tyK, NestedKey.data, NestedKey.datas, alike, alikeAll]
  | r + 1, u, v => by
    unfold tyK
    simp only [NestedKey.data, alike]
    refine alikeAll_of fun a ha b hb => ?_
    obtain ⟨i, _, rfl⟩ := mem_setK.mp (mem_sortK.mp ha)
    obtain ⟨j, _, rfl⟩ := mem_setK.mp (mem_sortK.mp hb)
    exact alike_key (alike_ty r) u v i j
theorem depthAll_le {n : Nat} : ∀ {ks : List NestedKey}, (∀ k ∈ ks, k.depth ≤ n) → NestedKey.depthAll ks ≤ n
  | [], _ => by simp [NestedKey.depthAll]
  | k :: ks, h => by
    rw [NestedKey.depthAll]
    exact Nat.max_le.mpr ⟨h k List.mem_cons_self, depthAll_le fun a ha => h a (List.mem_cons_of_mem _ ha)⟩
theorem depth_key {T : List Int → NestedKey} {n : Nat} (h : ∀ u, (T u).depth ≤ n) (w : List Int) (i : Nat) : (keyK T w i).depth ≤ n + 1 := by
  unfold keyK
  simp only [NestedKey.depth, NestedKey.depthAll]
  have h1 := h (w.take i)
  have h2 := h (w.drop (i + 1))
  omega
theorem depth_ty : ∀ (r : Nat) (w : List Int), (tyK r w).depth ≤ 2 * r + 1
  | 0, w => by simp [tyK, NestedKey.depth, NestedKey.depthAll]
  | r + 1, w => by
    unfold tyK
    rw [NestedKey.depth]
    have : NestedKey.depthAll (sortK (setK (keyK (tyK r) w) w.length)) ≤ 2 * r + 2 := depthAll_le fun a ha => by
      obtain ⟨i, _, rfl⟩ := mem_setK.mp (mem_sortK.mp ha)
      exact depth_key (depth_ty r) w i
    omega

/-! ### lesser types -/
def les3 (f : NestedKey → NestedKey) : NestedKey → NestedKey
  | .tup [a, c, b] => .tup [f a, c, f b]
  | k => k
def parts : NestedKey → List NestedKey
  | .tup ks => ks
  | _ => []
def lesK : Nat → NestedKey → NestedKey
  | 0, _ => .tup []
  | 1, _ => .tup []
  | r + 2, k => .tup (sortK (setK (fun i => les3 (lesK (r + 1)) ((parts k).getD i .none)) (parts k).length))
theorem les_key {r : Nat} (h : ∀ w, lesK (r + 1) (tyK (r + 1) w) = tyK r w) (w : List Int) (i : Nat) : les3 (lesK (r + 1)) (keyK (tyK (r + 1)) w i) = keyK (tyK r) w i := by
  show NestedKey.tup [lesK (r + 1) (tyK (r + 1) (w.take i)), .num (w.getD i 0), lesK (r + 1) (tyK (r + 1) (w.drop (i + 1)))] = _
  rw [h, h]
  rfl
theorem les_ty : ∀ (r : Nat) (w : List Int), lesK (r + 1) (tyK (r + 1) w) = tyK r w
  | 0, w => rfl
  | r + 1, w => by
    have ih := les_ty r
    show NestedKey.tup (sortK (setK (fun i => les3 (lesK (r + 1)) ((parts (tyK (r + 2) w)).getD i .none)) (parts (tyK (r + 2) w)).length)) = .tup (sortK (setK (keyK (tyK r) w) w.length))
    have ep : parts (tyK (r + 2) w) = sortK (setK (keyK (tyK (r + 1)) w) w.length) := rfl
    rw [ep]
    generalize hL : sortK (setK (keyK (tyK (r + 1)) w) w.length) = L
    have hin : ∀ i, i < L.length → ∃ j, j < w.length ∧ keyK (tyK (r + 1)) w j = L.getD i .none := fun i hi => by
      have m : L.getD i .none ∈ L := by
        rw [List.getD_eq_getElem?_getD, List.getElem?_eq_getElem hi]
        exact List.getElem_mem hi
      have m2 : L.getD i .none ∈ sortK (setK (keyK (tyK (r + 1)) w) w.length) := by rw [hL]; exact m
      exact mem_setK.mp (mem_sortK.mp m2)
    congr 1
    refine sortK_ext (setK_nodup _) (setK_nodup _) (fun k => ?_) fun a ha b hb => ?_
    · rw [mem_setK, mem_setK]
      constructor
      · rintro ⟨i, hi, rfl⟩
        obtain ⟨j, hj, e⟩ := hin i hi
        exact ⟨j, hj, by rw [← e]; exact (les_key ih w j).symm⟩
      · rintro ⟨j, hj, rfl⟩
        have m : keyK (tyK (r + 1)) w j ∈ L := by rw [← hL]; exact mem_sortK.mpr (mem_setK.mpr ⟨j, hj, rfl⟩)
        obtain ⟨i, hi, e⟩ := List.mem_iff_getElem.mp m
        refine ⟨i, hi, ?_⟩
        rw [List.getD_eq_getElem?_getD, List.getElem?_eq_getElem hi]
        show les3 _ L[i] = _
        rw [e]
        exact les_key ih w j
    · obtain ⟨i, hi, rfl⟩ := mem_setK.mp ha
      obtain ⟨i', hi', rfl⟩ := mem_setK.mp hb
      obtain ⟨j, hj, e⟩ := hin i hi
      obtain ⟨j', hj', e'⟩ := hin i' hi'
      rw [← e, ← e', les_key ih, les_key ih]
      exact alike_key (alike_ty r) w w j j'

/-! ### which words are told apart -/
theorem ty_set {r : Nat} {u v : List Int} (h : tyK (r + 1) u = tyK (r + 1) v) (k : NestedKey) : k ∈ setK (keyK (tyK r) u) u.length ↔ k ∈ setK (keyK (tyK r) v) v.length := by
  have e : sortK (setK (keyK (tyK r) u) u.length) = sortK (setK (keyK (tyK r) v) v.length) := NestedKey.tup.inj h
  rw [← mem_sortK, e, mem_sortK]
theorem ty_nil {r : Nat} {v : List Int} (h : tyK (r + 1) [] = tyK (r + 1) v) : v = [] := by
  cases v with
  | nil => rfl
  | cons c v =>
    have q := (ty_set h (keyK (tyK r) (c :: v) 0)).mpr (mem_setK.mpr ⟨0, by simp, rfl⟩)
    obtain ⟨i, hi, _⟩ := mem_setK.mp q
    exact absurd hi (by simp)
theorem cut_at (w : List Int) {i : Nat} (h : i < w.length) : w = w.take i ++ w.getD i 0 :: w.drop (i + 1) := by
  rw [List.getD_eq_getElem?_getD, List.getElem?_eq_getElem h]
  show w = w.take i ++ w[i] :: w.drop (i + 1)
  rw [List.getElem_cons_drop, List.take_append_drop]
theorem ty_inj : ∀ (r : Nat) (u v : List Int), u.length < 2 ^ r → tyK (r + 1) u = tyK (r + 1) v → u = v
  | 0, u, v, hl, h => by
    have : u = [] := List.length_eq_zero_iff.mp (by simpa using hl)
    subst this
    exact (ty_nil h).symm
  | r + 1, u, v, hl, h => by
    by_cases hu : u = []
    · subst hu; exact (ty_nil h).symm
    · have hp : 0 < u.length := List.length_pos_iff.mpr hu
      have e2 : 2 ^ (r + 1) = 2 * 2 ^ r := by rw [Nat.pow_succ, Nat.mul_comm]
      have hi : u.length / 2 < u.length := by omega
      obtain ⟨j, hj, e⟩ := mem_setK.mp ((ty_set h (keyK (tyK (r + 1)) u (u.length / 2))).mp (mem_setK.mpr ⟨_, hi, rfl⟩))
      have e' := NestedKey.tup.inj e
      injection e' with e1 e'
      injection e' with e3 e'
      injection e' with e4 _
      have e3 := NestedKey.num.inj e3
      have l1 : (u.take (u.length / 2)).length < 2 ^ r := by rw [List.length_take]; omega
      have l2 : (u.drop (u.length / 2 + 1)).length < 2 ^ r := by rw [List.length_drop]; omega
      have a1 := ty_inj r _ _ l1 e1.symm
      have a2 := ty_inj r _ _ l2 e4.symm
      rw [cut_at u hi, cut_at v hj, a1, a2, e3]
/-! ### what repr writes -/
def tl (x : Str) : List Nat := x.cps.toList
theorem tl_append (x y : Str) : tl (x ++ y) = tl x ++ tl y := cps_toList_append x y
theorem tl_len (x : Str) : (tl x).length = x.length := by unfold tl; simp [Str.length]
inductive Sm : NestedKey → Prop
  | num {i : Int} : 0 ≤ i → i < 10 → Sm (.num i)
  | tup {ks : List NestedKey} : (∀ k ∈ ks, Sm k) → Sm (.tup ks)
mutual
def enc : NestedKey → List Nat
  | .num i => [48 + i.toNat]
  | .tup ks => 40 :: encB ks
  | _ => []
def encB : List NestedKey → List Nat
  | [] => [41]
  | k :: ks => enc k ++ encT1 ks
def encT1 : List NestedKey → List Nat
  | [] => [44, 41]
  | k :: ks => 44 :: 32 :: (enc k ++ encT ks)
def encT : List NestedKey → List Nat
  | [] => [41]
  | k :: ks => 44 :: 32 :: (enc k ++ encT ks)
end
theorem digit_shown {i : Int} (h0 : 0 ≤ i) (h1 : i < 10) : tl (Str.ofString (toString i)) = [48 + i.toNat] := by
  obtain ⟨n, rfl⟩ := Int.eq_ofNat_of_zero_le h0
  have hn : n < 10 := by omega
  have all : ∀ n : Fin 10, tl (Str.ofString (toString ((n.val : Nat) : Int))) = [48 + n.val] := by decide +kernel
  have q := all ⟨n, hn⟩
  simpa using q
theorem comma : tl (Str.ofString ", ") = [44, 32] := by decide +kernel
theorem join_tl : ∀ (x : Str) (ts : List Str) (z : List Nat), tl (Str.join (Str.ofString ", ") (x :: ts)) ++ z = tl x ++ (ts.foldr (fun t r => 44 :: 32 :: (tl t ++ r)) z)
  | x, [], z => rfl
  | x, y :: ts, z => by
    show tl (x ++ Str.ofString ", " ++ Str.join (Str.ofString ", ") (y :: ts)) ++ z = _
    rw [tl_append, tl_append, comma, List.append_assoc, List.append_assoc, join_tl y ts z]
    rfl
theorem encT_fold : ∀ (ks : List NestedKey), (∀ k ∈ ks, tl k.data.shown = enc k) → ((ks.map fun k => k.data.shown).foldr (fun t r => 44 :: 32 :: (tl t ++ r)) [41]) = encT ks
  | [], _ => by simp [encT]
  | k :: ks, h => by
    rw [List.map_cons, List.foldr_cons, encT_fold ks fun a ha => h a (List.mem_cons_of_mem _ ha), h k List.mem_cons_self, encT]
theorem tup_tl (ks : List NestedKey) (h : ∀ k ∈ ks, tl k.data.shown = enc k) : tl (NestedKey.data (.tup ks)).shown = enc (.tup ks) := by
  have e : (NestedKey.data (.tup ks)).shown = tupleText (ks.map fun k => k.data.shown) := by
    simp only [NestedKey.data, PyData.shown]
    rw [shownAll_eq_map, datas_map, List.map_map]
    rfl
  rw [e]
  unfold tupleText
  rw [tl_append, tl_append]
  have e1 : tl (Str.ofString "(") = [40] := by decide +kernel
  have e2 : tl (Str.ofString ")") = [41] := by decide +kernel
  have e3 : tl (Str.ofString ",)") = [44, 41] := by decide +kernel
  rw [e1]
  cases ks with
  | nil =>
    simp only [List.map_nil, List.length_nil]
    rw [if_neg (by decide), e2]
    simp only [enc, encB]
    rfl
  | cons k ks =>
    rw [enc, encB]
    cases ks with
    | nil =>
      simp only [List.map_cons, List.map_nil, List.length_cons, List.length_nil]
      rw [if_pos (by decide), e3, encT1]
      show 40 :: (tl k.data.shown ++ [44, 41]) = _
      rw [h k List.mem_cons_self]
    | cons k2 ks =>
      have hl : ¬ (((k :: k2 :: ks).map fun k => k.data.shown).length == 1) = true := by simp
      rw [if_neg hl, e2, List.append_assoc, List.map_cons, join_tl]
      rw [encT_fold (k2 :: ks) fun a ha => h a (List.mem_cons_of_mem _ ha), h k List.mem_cons_self, encT1, encT]
      rfl
theorem shown_enc {k : NestedKey} (h : Sm k) : tl k.data.shown = enc k := by
  induction h with
  | num h0 h1 =>
    simp only [NestedKey.data, PyData.shown, enc]
    exact digit_shown h0 h1
  | tup _ ih => exact tup_tl _ ih
/-- what begins a key's text: a figure or an opening bracket -/
theorem enc_head {k : NestedKey} (h : Sm k) : ∃ c r, enc k = c :: r ∧ c ≠ 41 ∧ c ≠ 44 := by
  cases h with
  | num h0 h1 => exact ⟨_, _, by rw [enc], by omega, by omega⟩
  | tup _ => exact ⟨40, _, by rw [enc], by decide, by decide⟩
theorem encT_inj : ∀ (xs ys : List NestedKey) (s t : List Nat), (∀ x ∈ xs, ∀ (b : NestedKey) (s t : List Nat), Sm b → enc x ++ s = enc b ++ t → x = b ∧ s = t) → (∀ y ∈ ys, Sm y) → encT xs ++ s = encT ys ++ t → xs = ys ∧ s = t
  | [], [], s, t, _, _, e => by
    rw [encT] at e
    exact ⟨rfl, (List.cons.inj e).2⟩
  | [], y :: ys, s, t, _, _, e => by
    rw [encT, encT] at e
    exact absurd (List.cons.inj e).1 (by decide)
  | x :: xs, [], s, t, _, _, e => by
    rw [encT, encT] at e
    exact absurd (List.cons.inj e).1 (by decide)
  | x :: xs, y :: ys, s, t, h, hy, e => by
    rw [encT, encT] at e
    have e1 : (enc x ++ encT xs) ++ s = (enc y ++ encT ys) ++ t := (List.cons.inj (List.cons.inj e).2).2
    rw [List.append_assoc, List.append_assoc] at e1
    obtain ⟨a1, a2⟩ := h x List.mem_cons_self y _ _ (hy y List.mem_cons_self) e1
    obtain ⟨b1, b2⟩ := encT_inj xs ys s t (fun z hz => h z (List.mem_cons_of_mem _ hz)) (fun z hz => hy z (List.mem_cons_of_mem _ hz)) a2
    exact ⟨by rw [a1, b1], b2⟩
theorem encT1_inj (xs ys : List NestedKey) (s t : List Nat) (h : ∀ x ∈ xs, ∀ (b : NestedKey) (s t : List Nat), Sm b → enc x ++ s = enc b ++ t → x = b ∧ s = t) (hy : ∀ y ∈ ys, Sm y) (e : encT1 xs ++ s = encT1 ys ++ t) : xs = ys ∧ s = t := by
  cases xs with
  | nil =>
    cases ys with
    | nil =>
      rw [encT1] at e
      exact ⟨rfl, (List.cons.inj (List.cons.inj e).2).2⟩
    | cons y ys =>
      rw [encT1, encT1] at e
      exact absurd (List.cons.inj (List.cons.inj e).2).1 (by decide)
  | cons x xs =>
    cases ys with
    | nil =>
      rw [encT1, encT1] at e
      exact absurd (List.cons.inj (List.cons.inj e).2).1 (by decide)
    | cons y ys =>
      have e' : encT (x :: xs) ++ s = encT (y :: ys) ++ t := by rw [encT, encT]; rw [encT1, encT1] at e; exact e
      exact encT_inj _ _ s t h hy e'
theorem encB_inj (xs ys : List NestedKey) (s t : List Nat) (h : ∀ x ∈ xs, ∀ (b : NestedKey) (s t : List Nat), Sm b → enc x ++ s = enc b ++ t → x = b ∧ s = t) (hx : ∀ x ∈ xs, Sm x) (hy : ∀ y ∈ ys, Sm y) (e : encB xs ++ s = encB ys ++ t) : xs = ys ∧ s = t := by
  cases xs with
  | nil =>
    cases ys with
    | nil =>
      rw [encB] at e
      exact ⟨rfl, (List.cons.inj e).2⟩
    | cons y ys =>
      rw [encB, encB] at e
      obtain ⟨c, r, e1, e2, _⟩ := enc_head (hy y List.mem_cons_self)
      rw [e1] at e
      exact absurd (List.cons.inj e).1.symm e2
  | cons x xs =>
    cases ys with
    | nil =>
      rw [encB, encB] at e
      obtain ⟨c, r, e1, e2, _⟩ := enc_head (hx x List.mem_cons_self)
      rw [e1] at e
      exact absurd (List.cons.inj e).1 e2
    | cons y ys =>
      rw [encB, encB, List.append_assoc, List.append_assoc] at e
      obtain ⟨a1, a2⟩ := h x List.mem_cons_self y _ _ (hy y List.mem_cons_self) e
      obtain ⟨b1, b2⟩ := encT1_inj xs ys s t (fun z hz => h z (List.mem_cons_of_mem _ hz)) (fun z hz => hy z (List.mem_cons_of_mem _ hz)) a2
      exact ⟨by rw [a1, b1], b2⟩
theorem enc_inj {a : NestedKey} (ha : Sm a) : ∀ (b : NestedKey) (s t : List Nat), Sm b → enc a ++ s = enc b ++ t → a = b ∧ s = t := by
  induction ha with
  | @num i h0 h1 =>
    intro b s t hb e
    cases hb with
    | @num j k0 k1 =>
      rw [enc, enc] at e
      obtain ⟨e1, e2⟩ := List.cons.inj e
      have : i = j := by omega
      exact ⟨by rw [this], e2⟩
    | tup _ =>
      rw [enc, enc] at e
      have := (List.cons.inj e).1
      omega
  | @tup ks hs ih =>
    intro b s t hb e
    cases hb with
    | num k0 k1 =>
      rw [enc, enc] at e
      have := (List.cons.inj e).1
      omega
    | tup hb =>
      rw [enc, enc] at e
      obtain ⟨e1, e2⟩ := encB_inj _ _ s t ih hs hb (List.cons.inj e).2
      exact ⟨by rw [e1], e2⟩
theorem shown_inj {a b : NestedKey} (ha : Sm a) (hb : Sm b) (h : a.data.shown = b.data.shown) : a = b := by
  have e : enc a ++ [] = enc b ++ [] := by rw [← shown_enc ha, ← shown_enc hb, h]
  exact (enc_inj ha b [] [] hb e).1
theorem sm_showable {k : NestedKey} (h : Sm k) : k.data.showable = true := by
  induction h with
  | @num i h0 h1 =>
    simp only [NestedKey.data, PyData.showable]
    have : i.natAbs < 10 := by omega
    have l : i.natAbs.log2 < 10 := by
      have := Nat.log2_le_self i.natAbs
      omega
    exact decide_eq_true (by omega)
  | @tup ks _ ih =>
    simp only [NestedKey.data, PyData.showable]
    have all : ∀ ks : List NestedKey, (∀ k ∈ ks, k.data.showable = true) → PyData.showableAll (NestedKey.datas ks) = true := by
      intro ks
      induction ks with
      | nil => intro _; simp [NestedKey.datas, PyData.showableAll]
      | cons k ks ihk =>
        intro h
        simp only [NestedKey.datas, PyData.showableAll, h k List.mem_cons_self, ihk fun a ha => h a (List.mem_cons_of_mem _ ha)]
        rfl
    exact all ks ih
theorem encT_len {m : Nat} : ∀ {ks : List NestedKey}, (∀ k ∈ ks, (enc k).length ≤ m) → (encT ks).length ≤ ks.length * (m + 2) + 1
  | [], _ => by simp [encT]
  | k :: ks, h => by
    rw [encT]
    have h1 := h k List.mem_cons_self
    have h2 := encT_len (m := m) fun a ha => h a (List.mem_cons_of_mem _ ha)
    simp only [List.length_cons, List.length_append, Nat.succ_mul]
    omega
theorem enc_tup_len {m : Nat} {ks : List NestedKey} (h : ∀ k ∈ ks, (enc k).length ≤ m) : (enc (.tup ks)).length ≤ ks.length * (m + 2) + 3 := by
  rw [enc]
  cases ks with
  | nil => simp [encB]
  | cons k ks =>
    rw [encB]
    have h1 := h k List.mem_cons_self
    have h2 := encT_len (m := m) fun a ha => h a (List.mem_cons_of_mem _ ha)
    cases ks with
    | nil =>
      simp only [encT1, List.length_cons, List.length_append, List.length_nil]
      omega
    | cons k2 ks =>
      have e : encT1 (k2 :: ks) = encT (k2 :: ks) := by rw [encT1, encT]
      rw [e]
      simp only [List.length_cons, List.length_append, Nat.succ_mul] at h2 ⊢
      omega
/-- a word's letters are small -/
def Lt10 (w : List Int) : Prop := ∀ c ∈ w, 0 ≤ c ∧ c < 10
theorem Lt10.take {w : List Int} (h : Lt10 w) (n : Nat) : Lt10 (w.take n) := fun c hc => h c (List.mem_of_mem_take hc)
theorem Lt10.drop {w : List Int} (h : Lt10 w) (n : Nat) : Lt10 (w.drop n) := fun c hc => h c (List.mem_of_mem_drop hc)
theorem Lt10.at {w : List Int} (h : Lt10 w) (i : Nat) : 0 ≤ w.getD i 0 ∧ w.getD i 0 < 10 := by
  rw [List.getD_eq_getElem?_getD]
  cases e : w[i]? with
  | none => exact ⟨by decide, by decide⟩
  | some c => exact h c (List.mem_of_getElem? e)
theorem sm_key {r : Nat} (ih : ∀ w, Lt10 w → Sm (tyK r w)) {w : List Int} (h : Lt10 w) (i : Nat) : Sm (keyK (tyK r) w i) := by
  refine .tup fun k hk => ?_
  rcases List.mem_cons.mp hk with rfl | hk
  · exact ih _ (h.take i)
  · rcases List.mem_cons.mp hk with rfl | hk
    · exact .num (h.at i).1 (h.at i).2
    · rcases List.mem_cons.mp hk with rfl | hk
      · exact ih _ (h.drop (i + 1))
      · cases hk
theorem sm_ty : ∀ (r : Nat) (w : List Int), Lt10 w → Sm (tyK r w)
  | 0, w, _ => .tup fun k hk => nomatch hk
  | r + 1, w, h => .tup fun k hk => by
    obtain ⟨i, _, rfl⟩ := mem_setK.mp (mem_sortK.mp hk)
    exact sm_key (sm_ty r) h i
def encMost : Nat → Nat
  | 0 => 2
  | r + 1 => 16 * ((2 * encMost r + 12) + 2) + 3
theorem key_len {r : Nat} (ih : ∀ w : List Int, w.length ≤ 16 → (enc (tyK r w)).length ≤ encMost r) {w : List Int} (h : w.length ≤ 16) (i : Nat) : (enc (keyK (tyK r) w i)).length ≤ 2 * encMost r + 12 := by
  have h1 := ih (w.take i) (by rw [List.length_take]; omega)
  have h2 := ih (w.drop (i + 1)) (by rw [List.length_drop]; omega)
  unfold keyK
  rw [enc, encB, encT1, encT, encT]
  simp only [List.length_cons, List.length_append, List.length_nil, enc]
  omega
theorem ty_len : ∀ (r : Nat) (w : List Int), w.length ≤ 16 → (enc (tyK r w)).length ≤ encMost r
  | 0, w, _ => by simp [tyK, enc, encB, encMost]
  | r + 1, w, h => by
    have q : (enc (tyK (r + 1) w)).length ≤ (sortK (setK (keyK (tyK r) w) w.length)).length * ((2 * encMost r + 12) + 2) + 3 := enc_tup_len fun k hk => by
      obtain ⟨i, _, rfl⟩ := mem_setK.mp (mem_sortK.mp hk)
      exact key_len (ty_len r) h i
    have l : (sortK (setK (keyK (tyK r) w) w.length)).length ≤ 16 := by
      unfold sortK
      rw [List.length_mergeSort]
      exact Nat.le_trans (setK_len _) h
    unfold encMost
    have := Nat.mul_le_mul_right ((2 * encMost r + 12) + 2) l
    omega
end G

set_option Elab.async false
set_option linter.all false
set_option maxRecDepth 100000
set_option maxHeartbeats 4000000
/- dicts as sets of keys -/
namespace G
open PySem L2 PySem.Spec PyProof.Rows
def trueK (ks : List NestedKey) : List (NestedKey × PyData) := ks.map fun k => (k, .bool true)
theorem trueK_fst (ks : List NestedKey) : (trueK ks).map (·.1) = ks := by unfold trueK; rw [List.map_map]; exact List.map_id _
theorem trueK_put (ks : List NestedKey) (k : NestedKey) : putN (trueK ks) k (.bool true) = trueK (addK ks k) := by
  unfold putN addK
  rw [trueK_fst]
  split
  · unfold trueK
    rw [List.map_map]
    refine List.map_congr_left fun a _ => ?_
    show (if a = k then (a, PyData.bool true) else (a, PyData.bool true)) = _
    split <;> rfl
  · unfold trueK
    rw [List.map_append]; rfl
theorem pairs_get {w : List Int} {i : Nat} {x : PyData} (h : (pairsD (w.map .int))[i]? = some x) : i < w.length ∧ x = .tuple [.int i, .int (w.getD i 0)] := by
  have hi : i < w.length := by
    have q := (List.getElem?_eq_some_iff.mp h).1
    rw [pairsD_len, List.length_map] at q
    exact q
  have e : (w.map PyData.int)[i]? = some (.int (w.getD i 0)) := by
    rw [List.getElem?_map, List.getD_eq_getElem?_getD, List.getElem?_eq_getElem hi]; rfl
  rw [pairsD_at e] at h
  exact ⟨hi, (Option.some.inj h).symm⟩
theorem kvN_true (f : Nat → NestedKey) : ∀ n : Nat, kvN (fun i => (f i, .bool true)) n = trueK (setK f n)
  | 0 => rfl
  | n + 1 => by
    show putN (kvN _ n) (f n) (.bool true) = trueK (addK (setK f n) (f n))
    rw [kvN_true f n, trueK_put]
section
variable {X : Cx} {ρ ρ' ρ1 ρ2 ρ3 : Env'} {tg iter kx vx : Expr} {pos p : Pos} {xs : List PyData}
/-- {k: True for tg in iter}, the parts change nothing -/
theorem dd_keys {scope : Scope} (own : List (Str × Nat)) (f : Nat → NestedKey) (hunits : X.A.units + 100 < cLine) (hc : X.calm = true) (hN : X.N.Nodup) (ok : BlkOk X.N X.env.scope scope own) (hi : DI X ρ tg iter xs ρ1) (hv : ∀ j ∈ own.map (·.2), gS ρ1 j = .un)
    (turn : ∀ i x, xs[i]? = some x → DcT X scope (own.map (·.2)) tg kx vx x ρ1 (f i) (.bool true) ρ1) (hz : xs.length < 1000000)
    (hs : ∀ x, foldedSetIterable iter X.env x = pure x := by intro _; rfl) : DD X ρ (.DictComp kx vx [⟨tg, iter, [], 0⟩] scope pos) (trueK (setK f xs.length)) ρ1 := by
  rw [← kvN_true]
  exact dd_dc hunits hc hN ok hi (fun _ => ρ1) _ (fun i x hx => turn i x hx) (wipeE_wk hv) (fun _ => wipeE_wk hv) (mrg_un rfl hv) hz hs
theorem trueK_data (ks : List NestedKey) : ((trueK ks).map fun x => x.1.data) = ks.map NestedKey.data := by
  unfold trueK
  rw [List.map_map]; rfl
/-- x = {k: True for tg in iter}, the parts change nothing -/
theorem ds_setKeys {i : Nat} {y : Str} {py spos : Pos} {s0 : Sl} {scope : Scope} (own : List (Str × Nat)) (f : Nat → NestedKey) (hunits : X.A.units + 100 < cLine) (hc : X.calm = true) (hN : X.N.Nodup) (ok : BlkOk X.N X.env.scope scope own) (hi : DI X ρ tg iter xs ρ1) (hv : ∀ j ∈ own.map (·.2), gS ρ1 j = .un)
    (turn : ∀ i x, xs[i]? = some x → DcT X scope (own.map (·.2)) tg kx vx x ρ1 (f i) (.bool true) ρ1) (hz : xs.length < 1000000)
    (hsw : swapsWith (.DictComp kx vx [⟨tg, iter, [], 0⟩] scope pos) (some (.Name y py)) spos.line X.env = pure true := by rfl)
    (hr : ρ1[i]? = some s0 := by rfl) (hy : X.N[i]? = some y := by rfl) (hyl : X.env.scope.names.lookup y = some .local := by rfl) (hs : ∀ x, foldedSetIterable iter X.env x = pure x := by intro _; rfl) :
    DS X ρ (.Assign [.Name y py] (.DictComp kx vx [⟨tg, iter, [], 0⟩] scope pos) spos) (.nx (ρ1.set i (.o (.dn X.w (trueK (setK f xs.length)))))) := by
  rw [← kvN_true]
  exact ds_setDc hunits hc hN ok hsw hi (fun _ => ρ1) _ (fun i x hx => turn i x hx) (wipeE_wk hv) (fun _ => wipeE_wk hv) (mrg_un rfl hv) hz hr hy hyl hs
open PySem.W in
/-- tuple(sorted(d)), the keys of d all alike -/
theorem de_sortSet {i : Nat} {ks : List NestedKey} {e : Expr} {p1 p2 p3 p4 : Pos} (hc : X.calm = true) (hu : X.A.units + 100 < cLine) (hal : ∀ a ∈ ks, ∀ b ∈ ks, alike a.data b.data = true) (hso : ∀ a ∈ ks, ∃ k r, a = .tup (k :: r)) (mt : X.mg "tuple" = none) (ms : X.mg "sorted" = none)
    (h : DE X ρ e (.o i) ρ1) (hs : ρ1[i]? = some (.o (.dn X.w (trueK ks))) := by rfl) (hg : Gl X "sorted" := by rfl) (hg2 : Gl X "tuple" := by rfl)
    (he : starEach [e] X.env = (false, eval e X.env) :: starEach [] X.env := by rfl) (hpl : (backTo p2 (starEach [] X.env)).any (·.1) = false := by rfl)
    (he2 : starEach [.Call (.Name "sorted" p1) [e] [] p2] X.env = (false, eval (.Call (.Name "sorted" p1) [e] [] p2) X.env) :: starEach [] X.env := by rfl) (hpl2 : (backTo p4 (starEach [] X.env)).any (·.1) = false := by rfl) :
    DE X ρ (.Call (.Name "tuple" p3) [.Call (.Name "sorted" p1) [e] [] p2] [] p4) (.d (NestedKey.tup (sortK ks)).data) ρ1 := by
  refine de_is (de_tupL .d mt (dl_sortDn (i := i) hc hu ?_ ?_ ms h hs hg he hpl).de hg2 he2 hpl2) ?_
  · rw [trueK_data]
    intro a ha b hb
    obtain ⟨ka, ha', rfl⟩ := List.mem_map.mp ha
    obtain ⟨kb, hb', rfl⟩ := List.mem_map.mp hb
    exact hal ka ha' kb hb'
  · rw [trueK_data]
    refine .inl fun d hd => ?_
    obtain ⟨ka, ha', rfl⟩ := List.mem_map.mp hd
    obtain ⟨k, r, rfl⟩ := hso ka ha'
    exact ⟨_, _, by rw [NestedKey.data, NestedKey.datas]⟩
  · rw [trueK_data, ← sortK_data, ← datas_map]
    rfl
end
end G

set_option Elab.async false
set_option linter.all false
set_option maxRecDepth 100000
set_option maxHeartbeats 4000000
/- d.update({..}), keys that are tuples -/
namespace G
open PySem L2 PySem.Spec PyProof.Rows
section
variable {X : Cx} {pins : List (Addr × Obj)} {σ : L2.St} {H : Hp} {s : Shared} {a b : Addr} {xs ys : List (NestedKey × Addr × Value)}
theorem dn_upd {E : Value → Shared → Prop} {Q : Value → Shared → Prop} (hu : X.A.units + 100 < cLine) (I : Inv X pins σ H s) (h : H a = some (dnHO X.w a xs)) (hk : ∀ x ∈ xs, Dp X.K H (.ref x.2.1) x.1.data ∧ x.1.depth ≤ 8) (nd : (xs.map (·.1)).Nodup)
    (h2 : H b = some (dnHO X.w b ys)) (hk2 : ∀ x ∈ ys, Dp X.K H (.ref x.2.1) x.1.data ∧ x.1.depth ≤ 8) (nd2 : (ys.map (·.1)).Nodup) (hab : a ≠ b) (hb : (b == sysModules) = false) (hz : xs.length + ys.length ≤ 1000000)
    (hap : xs ≠ [] ∨ ((∀ x ∈ ys, ∃ ks, x.1 = .tup ks) ∧ (ys.map fun x => NestedKey.hash X.w x.1).Nodup)) (q : ∀ s', Inv X pins σ (upd H a (dnHO X.w a (storedAllH xs ys))) s' → Q .none s') : wpAny (model X.prog X.w) X.A (call (.builtin "dict.update") [.ref a, .ref b]) Q E s := by
  have hap' : xs ≠ [] ∨ ((∀ x ∈ ys, s.TypeIs (.ref x.2.1) "tuple") ∧ (ys.map fun x => (nestedKind X.prog X.w).hash x.1).Nodup) := by
    rcases hap with z | ⟨t1, t2⟩
    · exact .inl z
    · refine .inr ⟨fun x hx => ?_, t2⟩
      obtain ⟨ks, e⟩ := t1 x hx
      have z := key_is I (hk2 x hx).1 (hk2 x hx).2
      have z' : NestedIs s.heap x.1 (.ref x.2.1) := z.1
      rw [e] at z'
      cases z' with
      | tup g1 g2 g3 g4 => exact ⟨_, g1, g2⟩
  refine call_update_dictH (knd := nestedKind X.prog X.w) (by show X.A.units + 1 + 8 < cLine; omega) hab hb (dn_of I h hk nd) (dn_of I h2 hk2 nd2) hap' (by rw [sizeLine_eq]; omega) fun h' m' _ hs => ?_
  obtain ⟨o, ho⟩ : ∃ o, h'.get? a = some o := by obtain ⟨o, _, _, ho, _⟩ := m'; exact ⟨o, ho⟩
  exact q _ (I.write (e := a) (o := dnHO X.w a (storedAllH xs ys)) (by rw [h]; trivial) (.inl rfl) (fun b u hb e => (hs.2 b hb).trans e) ⟨o, ho⟩ (dn_ok m'))
end
def putAllN (kvs more : List (NestedKey × PyData)) : List (NestedKey × PyData) := more.foldl (fun acc p => putN acc p.1 p.2) kvs
theorem nk_putAll {K : PySem.W.Frag} {B : Hp} : ∀ {ys : List (NestedKey × Addr × Value)} {more : List (NestedKey × PyData)} {xs : List (NestedKey × Addr × Value)} {kvs : List (NestedKey × PyData)}, NkAll K B ys more → NkAll K B xs kvs → (xs.map (·.1)).Nodup → NkAll K B (storedAllH xs ys) (putAllN kvs more) ∧ ((storedAllH xs ys).map (·.1)).Nodup ∧ (storedAllH xs ys).length ≤ xs.length + ys.length
  | _, _, _, _, .nil, t, nd => ⟨t, nd, Nat.le_refl _⟩
  | _, _, xs, kvs, .cons (k := k) (a := ka) (u := u) (r := r) (s := s) h1 h2 h3 h4 t2, t, nd => by
    obtain ⟨g1, g2, g3⟩ := nk_putAll t2 (nk_put t h1 h2 h3 h4) (storedH_nodup nd)
    refine ⟨g1, g2, Nat.le_trans g3 ?_⟩
    have := storedH_len (xs := xs) (k := k) (ka := ka) (u := u)
    rw [List.length_cons]
    omega
theorem trueK_putAll : ∀ (more ks : List NestedKey), putAllN (trueK ks) (trueK more) = trueK (more.foldl addK ks)
  | [], ks => rfl
  | k :: more, ks => by
    show putAllN (putN (trueK ks) k (.bool true)) (trueK more) = trueK (more.foldl addK (addK ks k))
    rw [trueK_put, trueK_putAll more (addK ks k)]
theorem mem_addAll {k : NestedKey} : ∀ {more ks : List NestedKey}, k ∈ more.foldl addK ks ↔ k ∈ ks ∨ k ∈ more
  | [], ks => by simp
  | m :: more, ks => by
    rw [List.foldl_cons, mem_addAll, mem_addK, List.mem_cons, or_assoc]
theorem addAll_nodup : ∀ {more ks : List NestedKey}, ks.Nodup → (more.foldl addK ks).Nodup
  | [], _, h => h
  | k :: more, ks, h => by
    rw [List.foldl_cons]
    exact addAll_nodup (addK_nodup h)
section
variable {X : Cx} {ρ ρ' ρ1 ρ2 ρ3 : Env'} {a e : Expr} {pos p : Pos}
/-- d.update(e), e a new dict -/
theorem pe_dnUpd {ta : TA} {to : TE} {apos : Pos} (hu : X.A.units + 100 < cLine) (ho : PE X a to) (ha : PA X [e] ta) (hbase : attributeBase a "update" X.env (eval a X.env) = eval a X.env := by rfl)
    (hfew : ((backTo p (starEach [e] X.env)).all (fun x => !x.1) && (backToKw p (keywordEach [] X.env)).all (fun x => x.1.isSome) && decide ([e].length + ([] : List Keyword).length + (if ([] : List Keyword).isEmpty then 0 else 1) < 30)) = true := by rfl)
    (hline : (apos.endLine == p.line) = true := by rfl) (hs : starEach [e] X.env = (false, eval e X.env) :: starEach [] X.env := by rfl) (hpl : (backTo p (starEach [] X.env)).any (·.1) = false := by rfl) :
    PE X (.Call (.Attribute a "update" apos) [e] [] p) (fun σ H Q => to σ H fun x H1 => ∃ d xs, x = .ref d ∧ H1 d = some (dnHO X.w d xs) ∧ (∀ x ∈ xs, Dp X.K H1 (.ref x.2.1) x.1.data ∧ x.1.depth ≤ 8) ∧ (xs.map (·.1)).Nodup ∧
      ta σ H1 fun vs H2 => ∃ b xs ys, vs = [.ref b] ∧ H2 d = some (dnHO X.w d xs) ∧ (∀ x ∈ xs, Dp X.K H2 (.ref x.2.1) x.1.data ∧ x.1.depth ≤ 8) ∧ (xs.map (·.1)).Nodup ∧ H2 b = some (dnHO X.w b ys) ∧ (∀ x ∈ ys, Dp X.K H2 (.ref x.2.1) x.1.data ∧ x.1.depth ≤ 8) ∧ (ys.map (·.1)).Nodup ∧ d ≠ b ∧ (b == sysModules) = false ∧
        xs.length + ys.length ≤ 1000000 ∧ (xs ≠ [] ∨ ((∀ x ∈ ys, ∃ ks, x.1 = .tup ks) ∧ (ys.map fun x => NestedKey.hash X.w x.1).Nodup)) ∧ Q .non (upd H2 d (dnHO X.w d (storedAllH xs ys)))) := by
  refine ⟨fun pins s σ H Q I h => ?_⟩
  refine wpAny_Call_method_late hbase hfew hline rfl (thn (ho.run pins s σ H _ I h) fun v s1 ⟨x, H1, I1, r1, d, xs, ex, hd, hk, nd, q1⟩ => ?_)
  subst ex
  obtain rfl : v = Value.ref d := r1
  have hm := dn_of I1 hd hk nd
  refine ⟨"dict", "dict.update", PySem.F.plainAttrs_dict, PySem.F.slot_dict_update, PySem.F.type_dict_update, hm.typeIs, fun a ea => ?_, ?_⟩
  · cases ea
    obtain ⟨o, es, ep, ho', hc, _⟩ := hm
    exact ⟨o, ho', hc.2.1⟩
  · have hA := ha.run p pins s1 σ H1 _ I1 q1
    rw [hs] at hA ⊢
    refine Calls.callWith_builtin (by show (false || (backTo p (starEach [] X.env)).any (·.1)) = false; rw [hpl] <;> rfl) (Calls.evalArgs_plain ?_)
    refine thn hA fun us s2 ⟨vs, H2, I2, r2, b, xs2, ys, ev, g1, g2, g3, g4, g5, g6, g7, g8, g9, g10, q2⟩ => ?_
    subst ev
    cases r2 with
    | cons r r' =>
      cases r'
      cases r
      exact dn_upd hu I2 g1 g2 g3 g4 g5 g6 g7 g8 g9 g10 fun s' I' => ⟨.non, _, I', rfl, q2⟩
theorem ds_updDn {i : Nat} {kvs more : List (NestedKey × PyData)} {apos : Pos} (hu : X.A.units + 100 < cLine) (h0 : DE X ρ a (.o i) ρ1) (h : DD X ρ1 e more ρ2) (hz : kvs.length + more.length ≤ 1000000)
    (hap : kvs ≠ [] ∨ ((∀ x ∈ more, ∃ ks, x.1 = .tup ks) ∧ (more.map fun x => NestedKey.hash X.w x.1).Nodup)) (hs0 : ρ1[i]? = some (.o (.dn X.w kvs)) := by rfl) (hs2 : ρ2[i]? = some (.o (.dn X.w kvs)) := by rfl)
    (hbase : attributeBase a "update" X.env (eval a X.env) = eval a X.env := by rfl)
    (hfew : ((backTo p (starEach [e] X.env)).all (fun x => !x.1) && (backToKw p (keywordEach [] X.env)).all (fun x => x.1.isSome) && decide ([e].length + ([] : List Keyword).length + (if ([] : List Keyword).isEmpty then 0 else 1) < 30)) = true := by rfl)
    (hline : (apos.endLine == p.line) = true := by rfl) (hs : starEach [e] X.env = (false, eval e X.env) :: starEach [] X.env := by rfl) (hpl : (backTo p (starEach [] X.env)).any (·.1) = false := by rfl)
    (hsw : swapsWith (.Call (.Attribute a "update" apos) [e] [] p) none pos.line X.env = pure false := by rfl) :
    DS X ρ (.Expr (.Call (.Attribute a "update" apos) [e] [] p) pos) (.nx (ρ2.set i (.o (.dn X.w (putAllN kvs more))))) := fun F Z B H σ D k q =>
  ⟨_, ps_expr (pe_dnUpd hu pe_s (pa_cons pe_s pa_nil hs) hbase hfew hline hs hpl) hsw, h0 F Z B H σ _ k fun v B1 H1 k1 x1 w1 => by
    obtain ⟨v', as, g1, g2, _⟩ := k1.ob (gS_some hs0)
    have w' : gV σ i = some v := w1
    rw [w'] at g1
    cases g1
    cases g2 with
    | @dn _ d xs _ d1 d2 d3 d4 d5 =>
    refine ⟨d, xs, rfl, d1, fun x hx => ⟨dp_mono k1.exB (nk_keys d5 x hx).1, (nk_keys d5 x hx).2⟩, d4, ?_⟩
    refine h F Z B1 H1 σ _ k1 fun b B2 H2 k2 x2 n2 ob2 => ?_
    obtain ⟨v', as, g1, g2, g3⟩ := k2.ob (gS_some hs2)
    rw [w'] at g1
    cases g1
    have dn0 := g2
    have nb := n2.o i _ _ _ (gS_some hs2) w' g2
    cases g2 with
    | @dn _ _ xs2 _ e1 e2 e3 e4 e5 =>
    cases ob2 with
    | @dn _ _ ys _ f1 f2 f3 f4 f5 =>
    have el : xs2.length = kvs.length := e5.length
    have fl : ys.length = more.length := f5.length
    obtain ⟨t1, t2, t3⟩ := nk_putAll f5 e5 e4
    refine ⟨b, xs2, ys, rfl, e1, fun x hx => ⟨dp_mono k2.exB (nk_keys e5 x hx).1, (nk_keys e5 x hx).2⟩, e4, f1, fun x hx => ⟨dp_mono k2.exB (nk_keys f5 x hx).1, (nk_keys f5 x hx).2⟩, f4, fun z => nb (by rw [z]; exact List.mem_singleton.mpr rfl), f2, by omega, ?_, ?_⟩
    · have ef := nk_fst f5
      rcases hap with z | ⟨z1, z2⟩
      · refine .inl fun z' => z ?_
        rw [z'] at el
        exact List.length_eq_zero_iff.mp el.symm
      · refine .inr ⟨fun x hx => ?_, ?_⟩
        · have m : x.1 ∈ more.map (·.1) := by rw [← ef]; exact List.mem_map_of_mem hx
          obtain ⟨y, hy, e⟩ := List.mem_map.mp m
          obtain ⟨ks, ek⟩ := z1 y hy
          exact ⟨ks, by rw [← e]; exact ek⟩
        · have q1 := congrArg (List.map (NestedKey.hash X.w)) ef
          rw [List.map_map, List.map_map] at q1
          have q2 : (ys.map fun x => NestedKey.hash X.w x.1) = more.map fun x => NestedKey.hash X.w x.1 := q1
          rw [q2]; exact z2
    · exact q B2 _ σ (k2.turn (gS_some hs2) w' dn0 (.dn upd_same e2 (by omega) t2 t1) fun c hc => by
        rw [upd_ne fun z => hc (by rw [z]; exact List.mem_singleton.mpr rfl)]) (x1.trans x2)⟩
end
end G

set_option Elab.async false
set_option linter.all false
set_option maxRecDepth 100000
set_option maxHeartbeats 4000000
/- membership, dicts of pairs, new dicts sorted -/
namespace G
open PySem L2 PySem.Spec PyProof.Rows
/-! ### x in T, data -/
def rInDT (K : PySem.W.Frag) : R2 := fun x y H Q => ∃ d ds, Dp K H x d ∧ Dp K H y (.tuple ds) ∧ SeqAt.shaped d = true ∧ SeqAt.shaped (.tuple ds) = true ∧ Q (.bl (ds.any fun z => PyData.eqv z d)) H
def rNotInDT (K : PySem.W.Frag) : R2 := fun x y H Q => ∃ d ds, Dp K H x d ∧ Dp K H y (.tuple ds) ∧ SeqAt.shaped d = true ∧ SeqAt.shaped (.tuple ds) = true ∧ Q (.bl (!ds.any fun z => PyData.eqv z d)) H
section
variable {X : Cx}
theorem op_inDT (hu : X.A.units + 65 < cLine) : OpR X (compareOp .In) (rInDT X.K) := by
  intro pins s σ H x y v u Q I rx ry h
  obtain ⟨d, ds, hd, he, sd, se, q⟩ := h
  obtain ⟨as, r1⟩ := Dp.reads I d x v (hd.l2 (nd_sh sd)) rx
  obtain ⟨bs, r2⟩ := Dp.reads I (.tuple ds) y u (he.l2 (nd_sh se)) ry
  exact SeqAt.in_tuple_reads r2 r1 (SeqAt.canLay_of_shaped se) (SeqAt.canLay_of_shaped sd) (room_in_shaped sd hu) ⟨.bl _, H, I, rfl, q⟩
theorem op_notInDT (hu : X.A.units + 65 < cLine) : OpR X (compareOp .NotIn) (rNotInDT X.K) := by
  intro pins s σ H x y v u Q I rx ry h
  obtain ⟨d, ds, hd, he, sd, se, q⟩ := h
  obtain ⟨as, r1⟩ := Dp.reads I d x v (hd.l2 (nd_sh sd)) rx
  obtain ⟨bs, r2⟩ := Dp.reads I (.tuple ds) y u (he.l2 (nd_sh se)) ry
  exact SeqAt.notIn_tuple_reads r2 r1 (SeqAt.canLay_of_shaped se) (SeqAt.canLay_of_shaped sd) (room_in_shaped sd hu) ⟨.bl _, H, I, rfl, q⟩
end
section
variable {ρ : Env'} {d : PyData} {ds : List PyData}
theorem od_inT {K : PySem.W.Frag} (hx : SeqAt.shaped d = true) (hy : SeqAt.shaped (.tuple ds) = true) : OpD K (rInDT K) ρ (.d d) (.d (.tuple ds)) (.d (.bool (ds.any fun z => PyData.eqv z d))) := fun F Z B H σ Q v1 v2 k w1 w2 q =>
  ⟨d, ds, dp_mono k.exB w1, dp_mono k.exB w2, hx, hy, q _ B H k (Sub.refl B) (.bl _)⟩
theorem od_notInT {K : PySem.W.Frag} (hx : SeqAt.shaped d = true) (hy : SeqAt.shaped (.tuple ds) = true) : OpD K (rNotInDT K) ρ (.d d) (.d (.tuple ds)) (.d (.bool (!ds.any fun z => PyData.eqv z d))) := fun F Z B H σ Q v1 v2 k w1 w2 q =>
  ⟨d, ds, dp_mono k.exB w1, dp_mono k.exB w2, hx, hy, q _ B H k (Sub.refl B) (.bl _)⟩
theorem od_inL {K : PySem.W.Frag} (hx : SeqAt.shaped d = true) (hy : SeqAt.shaped (.list ds) = true) : OpD K (rInD K) ρ (.d d) (.d (.list ds)) (.d (.bool (ds.any fun z => PyData.eqv z d))) := fun F Z B H σ Q v1 v2 k w1 w2 q =>
  ⟨d, ds, (dp_mono k.exB w1).l2 (nd_sh hx), (dp_mono k.exB w2).l2 (nd_sh hy), hx, hy, q _ B H k (Sub.refl B) (.bl _)⟩
theorem od_notInL {K : PySem.W.Frag} (hx : SeqAt.shaped d = true) (hy : SeqAt.shaped (.list ds) = true) : OpD K (rNotInD K) ρ (.d d) (.d (.list ds)) (.d (.bool (!ds.any fun z => PyData.eqv z d))) := fun F Z B H σ Q v1 v2 k w1 w2 q =>
  ⟨d, ds, (dp_mono k.exB w1).l2 (nd_sh hx), (dp_mono k.exB w2).l2 (nd_sh hy), hx, hy, q _ B H k (Sub.refl B) (.bl _)⟩
end
section
variable {X : Cx} {ρ ρ1 ρ2 : Env'} {a b : Expr} {pos : Pos} {d : PyData} {ds : List PyData}
theorem dt_inT (hu : X.A.units + 65 < cLine) (hx : SeqAt.shaped d = true) (hy : SeqAt.shaped (.tuple ds) = true) (ha : DE X ρ a (.d d) ρ1) (hb : DE X ρ1 b (.d (.tuple ds)) ρ2) (hm : behindInMarks .In b = false := by rfl) : DT X ρ (.Compare a [.In] [b] pos) (ds.any fun z => PyData.eqv z d) ρ2 := dt_cmp (op_inDT hu) (od_inT hx hy) hm ha hb
theorem de_inT (hu : X.A.units + 65 < cLine) (hx : SeqAt.shaped d = true) (hy : SeqAt.shaped (.tuple ds) = true) (ha : DE X ρ a (.d d) ρ1) (hb : DE X ρ1 b (.d (.tuple ds)) ρ2) (hm : behindInMarks .In b = false := by rfl) : DE X ρ (.Compare a [.In] [b] pos) (.d (.bool (ds.any fun z => PyData.eqv z d))) ρ2 := de_cmp (op_inDT hu) (od_inT hx hy) hm ha hb
theorem dt_notInT (hu : X.A.units + 65 < cLine) (hx : SeqAt.shaped d = true) (hy : SeqAt.shaped (.tuple ds) = true) (ha : DE X ρ a (.d d) ρ1) (hb : DE X ρ1 b (.d (.tuple ds)) ρ2) (hm : behindInMarks .NotIn b = false := by rfl) : DT X ρ (.Compare a [.NotIn] [b] pos) (!ds.any fun z => PyData.eqv z d) ρ2 := dt_cmp (op_notInDT hu) (od_notInT hx hy) hm ha hb
theorem dt_inL (hu : X.A.units + 65 < cLine) (hx : SeqAt.shaped d = true) (hy : SeqAt.shaped (.list ds) = true) (ha : DE X ρ a (.d d) ρ1) (hb : DE X ρ1 b (.d (.list ds)) ρ2) (hm : behindInMarks .In b = false := by rfl) : DT X ρ (.Compare a [.In] [b] pos) (ds.any fun z => PyData.eqv z d) ρ2 := dt_cmp (op_inD hu) (od_inL hx hy) hm ha hb
theorem dt_notInL (hu : X.A.units + 65 < cLine) (hx : SeqAt.shaped d = true) (hy : SeqAt.shaped (.list ds) = true) (ha : DE X ρ a (.d d) ρ1) (hb : DE X ρ1 b (.d (.list ds)) ρ2) (hm : behindInMarks .NotIn b = false := by rfl) : DT X ρ (.Compare a [.NotIn] [b] pos) (!ds.any fun z => PyData.eqv z d) ρ2 := dt_cmp (op_notInD hu) (od_notInL hx hy) hm ha hb
end
theorem any_nk (L : List NestedKey) (k : NestedKey) : ((L.map NestedKey.data).any fun z => PyData.eqv z k.data) = decide (k ∈ L) := by
  rw [List.any_map]
  induction L with
  | nil => rfl
  | cons a L ih =>
    rw [List.any_cons, ih]
    show (PyData.eqv a.data k.data || decide (k ∈ L)) = _
    rw [eqv_nk]
    by_cases h : a = k
    · subst h; simp
    · rw [decide_eq_false h, Bool.false_or]
      by_cases m : k ∈ L
      · rw [decide_eq_true m, decide_eq_true (List.mem_cons_of_mem _ m)]
      · rw [decide_eq_false m, decide_eq_false fun z => (List.mem_cons.mp z).elim (fun e => h e.symm) m]
/-! ### new objects -/
/-- an expression that lays a new object -/
def DF (X : Cx) (ρ : Env') (e : Expr) (b : Ob) (ρ' : Env') : Prop := ∀ F Z B H σ Q, Ok X.K F Z B H σ ρ →
  (∀ p B' H', Ok X.K F Z B' H' σ ρ' → Sub B B' → New X.K F Z B' H' σ ρ' p → ObAt X.K B' H' (.ref p) [p] b → Q (.ref p) H') → sE X e σ H Q
section
variable {X : Cx} {ρ ρ' ρ1 ρ2 ρ3 : Env'} {a b c e tg iter : Expr} {es : List Expr} {pos p : Pos} {xs ys : List PyData} {kvs : List (NestedKey × PyData)}
theorem DL.df (h : DL X ρ e xs ρ1) : DF X ρ e (.lst xs) ρ1 := fun F Z B H σ Q k q => h F Z B H σ Q k fun p us B' H' k' x n hp t => q p B' H' k' x n (.lst hp t)
theorem DD.df (h : DD X ρ e kvs ρ1) : DF X ρ e (.dn X.w kvs) ρ1 := h
theorem ds_setF {i : Nat} {x : Str} {pos' : Pos} {b : Ob} {s0 : Sl} (hN : X.N.Nodup) (he : DF X ρ e b ρ1) (hr : ρ1[i]? = some s0 := by rfl) (hi : X.N[i]? = some x := by rfl) (hx : Loc X.env.scope x := by first | exact Or.inl rfl | exact Or.inr rfl)
    (hs : swapsWith e (some (.Name x pos')) pos.line X.env = pure false := by rfl) (hf : X.fn x = true ∨ X.env.scope.names.lookup x = some .local := by first | exact .inl rfl | exact .inr rfl) : DS X ρ (.Assign [.Name x pos'] e pos) (.nx (ρ1.set i (.o b))) := fun F Z B H σ D k q =>
  ⟨_, ps_set hN hi hx pe_s hs hf, he F Z B H σ _ k fun p B1 H1 k1 x1 n w => q B1 H1 _ (k1.take n (List.getElem?_eq_some_iff.mp hr).1 w) x1⟩
/-- sorted(e), e a new dict of tuple keys -/
theorem dl_sortF (hc : X.calm = true) (hu : X.A.units + 100 < cLine) (hal : PySem.W.AllAlike (kvs.map fun x => x.1.data)) (hso : PySem.W.Sortable (kvs.map fun x => x.1.data)) (hm : X.mg "sorted" = none) (h : DD X ρ e kvs ρ1) (hg : Gl X "sorted" := by rfl)
    (he : starEach [e] X.env = (false, eval e X.env) :: starEach [] X.env := by rfl) (hpl : (backTo pos (starEach [] X.env)).any (·.1) = false := by rfl) : DL X ρ (.Call (.Name "sorted" p) [e] [] pos) (sortD (kvs.map fun x => x.1.data)) ρ1 := fun F Z B H σ Q k q =>
  ⟨_, pe_callB (call_sortDn hc hu) hg hm PyProof.Rows.boot_sorted (pa_cons pe_s pa_nil he) (by decide) (by decide) he hpl, h F Z B H σ _ k fun a B1 H1 k1 x1 n1 ob => by
    cases ob with
    | @dn _ _ xs _ d1 d2 d3 d4 d5 =>
    have ef : (xs.map fun x => x.1.data) = kvs.map fun x => x.1.data := by
      have q1 := congrArg (List.map NestedKey.data) (nk_fst d5)
      rw [List.map_map, List.map_map] at q1
      exact q1
    have back : ∀ l : List (NestedKey × Addr × Value), (∀ x ∈ l, Dp X.K B1 (.ref x.2.1) x.1.data) → DpAll X.K B1 (l.map fun x => .ref x.2.1) (l.map fun x => x.1.data) := by
      intro l
      induction l with
      | nil => intro _; exact .nil
      | cons x l ih => intro hl; exact .cons (hl x List.mem_cons_self) (ih fun y hy => hl y (List.mem_cons_of_mem _ hy))
    refine ⟨a, xs, rfl, d1, d2, d3, fun x hx => ⟨dp_mono k1.exB (nk_keys d5 x hx).1, (nk_keys d5 x hx).2⟩, by rw [ef]; exact hal, by rw [ef]; exact hso, fun l hl => q l _ B1 _ (k1.loose hl _) x1 (k1.laid hl _) upd_same ?_⟩
    have e2 : sortD (kvs.map fun x => x.1.data) = (xs.mergeSort (PySem.W.dataLe false fun x => x.1.data)).map fun x => x.1.data := by
      unfold sortD
      rw [← ef]
      exact (PySem.W.sort_maps (r := PySem.W.dataLe false fun x : NestedKey × Addr × Value => x.1.data) (s := PySem.W.dataLe false id) (fun x => x.1.data) (fun _ _ _ _ => rfl)).symm
    rw [e2]
    exact back _ fun x hx => (nk_keys d5 x ((List.mergeSort_perm _ _).mem_iff.mp hx)).1⟩
end
/-! ### dict(pairs), the keys tuples -/
def pairD (p : NestedKey × PyData) : PyData := .tuple [p.1.data, p.2]
section
variable {X : Cx} {pins : List (Addr × Obj)} {σ : L2.St} {H : Hp} {s : Shared}
theorem pairs_raw (I : Inv X pins σ H s) {B : Hp} (xB : Sub B H) : ∀ {kvs : List (NestedKey × PyData)} {vs : List V} {its : List Value}, DpAll X.K B vs (kvs.map pairD) → Vals vs its → (∀ p ∈ kvs, p.1.depth ≤ 8 ∧ ∃ ks, p.1 = .tup ks) →
    ∃ (Ts : List Addr) (ys : List (NestedKey × Addr × Value)), its = Ts.map .ref ∧ ys.length = Ts.length ∧ NkAll X.K B ys kvs ∧ ∀ (j : Nat) (k : NestedKey) (b : Addr) (v : Value), ys[j]? = some (k, b, v) → ∃ T, Ts[j]? = some T ∧ s.heap.IsTuple T #[.ref b, v]
  | [], _, _, h, r, _ => by
    cases h
    cases r
    exact ⟨[], [], rfl, rfl, .nil, fun j k b v z => by simp at z⟩
  | p :: kvs, _, _, .cons h t, .cons r rr, hd => by
    obtain ⟨Ts, ys, e1, e2, e3, e4⟩ := pairs_raw I xB t rr fun q hq => hd q (List.mem_cons_of_mem _ hq)
    obtain ⟨dp, ks, ek⟩ := hd p List.mem_cons_self
    have h' : Dp X.K B _ (.tuple [p.1.data, p.2]) := h
    cases h' with
    | @tup T us _ hs _ ht =>
    cases r
    obtain ⟨raw, rv, hT, _⟩ := I.tuple (hs.imp xB.rd id)
    cases ht with
    | cons t1 t2 =>
    cases t2 with
    | cons t2 t3 =>
    cases t3
    cases rv with
    | cons r1 r2 =>
    cases r2 with
    | cons r2 r3 =>
    cases r3
    rename_i u1 u2
    have t1' := t1
    rw [ek, NestedKey.data] at t1'
    cases t1' with
    | @tup ka _ _ _ _ _ =>
    cases r1
    refine ⟨T :: Ts, (p.1, ka, u2) :: ys, by rw [e1]; rfl, by simp [e2], .cons t1 dp r2 t2 e3, fun j k b v hj => ?_⟩
    cases j with
    | zero =>
      have e := Option.some.inj hj
      cases e
      obtain ⟨o, g1, g2, n, g3⟩ := hT
      exact ⟨T, rfl, o, g1, g2, n, g3⟩
    | succ j => exact e4 j k b v hj
def rDictN (K : PySem.W.Frag) (w : World) : List V → Hp → VK → Prop := fun xs H Q => ∃ (B : Hp) (a : Addr) (vs : List V) (kvs : List (NestedKey × PyData)), xs = [.ref a] ∧ Sub B H ∧ SqL K H a vs ∧ DpAll K B vs (kvs.map pairD) ∧ (∀ p ∈ kvs, p.1.depth ≤ 8 ∧ ∃ ks, p.1 = .tup ks) ∧ kvs.length ≤ 1000000 ∧
  ∀ (d : Addr) (ys : List (NestedKey × Addr × Value)), H d = none → (d == sysModules) = false → NkAll K B ys kvs → Q (.ref d) (upd H d (dnHO w d (storedAllH [] ys)))
theorem call_dictN (hc : X.calm = true) (hu : X.A.units + 100 < cLine) : CallR X (.type "dict") (rDictN X.K X.w) := by
  intro pins s σ H xs us Q I r ⟨B, a, vs, kvs, ex, xB, hq, hp, hk, hz, q⟩
  subst ex
  obtain ⟨u, eu, rx⟩ := vals1 r
  subst eu
  cases rx
  obtain ⟨its, rv, pl, _⟩ := I.list hq
  obtain ⟨Ts, ys, e1, e2, e3, e4⟩ := pairs_raw I xB hp rv hk
  obtain ⟨o, n, ho, hcl, hd, hdat⟩ := pl
  have yl : ys.length = kvs.length := e3.length
  let ps : List (Value × Value) := ys.map fun y => (.ref y.2.1, y.2.2)
  have okk : PlainSeq "list" s.heap a its.toArray ∧ PairItems s.heap its.toArray (fun j => Ts.getD j 0) ps := by
    refine ⟨⟨o, n, ho, hcl, hd, hdat⟩, by simp [ps, e1, e2], fun j k v hj => ?_⟩
    have hj' : (ys[j]?).map (fun y => (Value.ref y.2.1, y.2.2)) = some (k, v) := by rw [← List.getElem?_map]; exact hj
    cases hy : ys[j]? with
    | none => rw [hy] at hj'; cases hj'
    | some y =>
      obtain ⟨yk, yb, yv⟩ := y
      rw [hy] at hj'
      have e := Option.some.inj hj'
      cases e
      obtain ⟨T, hT, tt⟩ := e4 j yk yb yv hy
      have eT : Ts.getD j 0 = T := by rw [List.getD_eq_getElem?_getD, hT]; rfl
      refine ⟨?_, .inl (by show s.heap.IsTuple (Ts.getD j 0) _; rw [eT]; exact tt)⟩
      rw [e1]
      simp only [List.getElem?_toArray, List.getElem?_map, hT]
      rw [eT]; rfl
  have big : (s.heap.objs.size == sysModules) = false := beq_eq_false_iff_ne.mpr (Nat.ne_of_gt I.big)
  refine call_dict_pairsH (knd := nestedKind X.prog X.w) (PairArg.list a its.toArray (fun j => Ts.getD j 0) ps) (I.ok.hd hc) (by show X.A.units + 1 + 1 + 8 < cLine; omega) okk (ps := ys) ⟨by simp [ps], fun j key v hr => ?_⟩ (fun h' hk' x hx => ?_) (by simp [ps, yl, sizeLine_eq]; omega) fun h' tk hd' hkp => ?_
  · have hj' : (ys[j]?).map (fun y => (Value.ref y.2.1, y.2.2)) = some (key, v) := by rw [← List.getElem?_map]; exact hr
    cases hy : ys[j]? with
    | none => rw [hy] at hj'; cases hj'
    | some y =>
      obtain ⟨yk, yb, yv⟩ := y
      rw [hy] at hj'
      have e := Option.some.inj hj'
      cases e
      exact ⟨yk, yb, rfl, rfl⟩
  · have z := nk_keys e3 x hx
    have z2 := key_is I (dp_mono xB z.1) z.2
    exact ⟨NestedIs.at (fun a o vs n e _ => hk' a o (Nat.ne_of_lt (Heap.lt_size e)) (by simp) e) _ _ z2.1, z2.2⟩
  · exact ⟨.ref s.heap.objs.size, _, I.laid (a := s.heap.objs.size) (o := dnHO X.w s.heap.objs.size (storedAllH [] ys)) (t' := tk) (fun b o e => hkp b o (by simp) e) (Nat.le_refl _) (dn_ok (P := X.prog) hd'), rfl, q _ ys (I.hok.fresh (Nat.le_refl _)) big e3⟩
end
end G

set_option Elab.async false
set_option linter.all false
set_option maxRecDepth 100000
set_option maxHeartbeats 4000000
/- dict(pairs) as a new dict; sorted(dict(pairs)) -/
namespace G
open PySem L2 PySem.Spec PyProof.Rows
/-- a list that is data or new: what reads it -/
def DLd (X : Cx) (ρ : Env') (e : Expr) (xs : List PyData) (ρ' : Env') : Prop := ∀ F Z B H σ Q, Ok X.K F Z B H σ ρ →
  (∀ p us B' H', Ok X.K F Z B' H' σ ρ' → Sub B B' → SqL X.K H' p us → DpAll X.K B' us xs → Q (.ref p) H') → sE X e σ H Q
section
variable {X : Cx} {ρ ρ' ρ1 ρ2 ρ3 : Env'} {a b c e tg iter : Expr} {es : List Expr} {pos p : Pos} {xs ys : List PyData} {kvs : List (NestedKey × PyData)}
theorem DL.ld (h : DL X ρ e xs ρ1) : DLd X ρ e xs ρ1 := fun F Z B H σ Q k q => h F Z B H σ Q k fun p us B' H' k' x n hp t => q p us B' H' k' x (SqL.of hp) t
theorem DE.ld (h : DE X ρ e (.d (.list xs)) ρ1) : DLd X ρ e xs ρ1 := fun F Z B H σ Q k q => h F Z B H σ Q k fun v B' H' k' x w => by
  cases w with
  | lst s t => exact q _ _ B' H' k' x (s.imp k'.exB.rd id) t
theorem DE.ldo {i : Nat} (h : DE X ρ e (.o i) ρ1) (hs : ρ1[i]? = some (.o (.lst xs)) := by rfl) : DLd X ρ e xs ρ1 := fun F Z B H σ Q k q => h F Z B H σ Q k fun v B' H' k' x w => by
  obtain ⟨v', as, g1, g2, _⟩ := k'.ob (gS_some hs)
  have w' : gV σ i = some v := w
  rw [w'] at g1
  cases g1
  cases g2 with
  | lst h t => exact q _ _ B' H' k' x (SqL.of h) t
/-- dict(pairs), the keys tuples -/
theorem dd_pairs (hc : X.calm = true) (hu : X.A.units + 100 < cLine) (h : DLd X ρ e (kvs.map pairD) ρ1) (hk : ∀ p ∈ kvs, p.1.depth ≤ 8 ∧ ∃ ks, p.1 = .tup ks) (hz : kvs.length ≤ 1000000) (hm : X.mg "dict" = none) (hg : Gl X "dict" := by rfl)
    (he : starEach [e] X.env = (false, eval e X.env) :: starEach [] X.env := by rfl) (hpl : (backTo pos (starEach [] X.env)).any (·.1) = false := by rfl) : DD X ρ (.Call (.Name "dict" p) [e] [] pos) (putAllN [] kvs) ρ1 := fun F Z B H σ Q k q =>
  ⟨_, pe_callTy (call_dictN hc hu) hg hm PyProof.Rows.boot_dict (pa_cons pe_s pa_nil he) (by decide) (by decide) he hpl, h F Z B H σ _ k fun a us B1 H1 k1 x1 hs t => by
    refine ⟨B1, a, us, kvs, rfl, k1.exB, hs, t, hk, hz, fun d ys hd hsy nk => ?_⟩
    obtain ⟨g1, g2, g3⟩ := nk_putAll nk (.nil) (by simp)
    have gl : (storedAllH [] ys).length ≤ 1000000 := by
      have := nk.length
      simp at g3
      omega
    exact q d B1 _ (k1.loose hd _) x1 (k1.laid hd _) (.dn upd_same hsy gl g2 g1)⟩
end
/-! ### sorted(dict(pairs)), the keys whole numbers -/
def addI (ks : List Int) (k : Int) : List Int := if k ∈ ks then ks else ks ++ [k]
theorem mem_addI {k : Int} : ∀ {more ks : List Int}, k ∈ more.foldl addI ks ↔ k ∈ ks ∨ k ∈ more
  | [], ks => by simp
  | m :: more, ks => by
    rw [List.foldl_cons, mem_addI]
    unfold addI
    split
    · rename_i h
      constructor
      · rintro (a | a)
        · exact .inl a
        · exact .inr (List.mem_cons_of_mem _ a)
      · rintro (a | a)
        · exact .inl a
        · rcases List.mem_cons.mp a with e | a
          · exact .inl (e ▸ h)
          · exact .inr a
    · rw [List.mem_append, List.mem_singleton, List.mem_cons, or_assoc]
theorem addI_nodup : ∀ {more ks : List Int}, ks.Nodup → (more.foldl addI ks).Nodup
  | [], _, h => h
  | k :: more, ks, h => by
    rw [List.foldl_cons]
    refine addI_nodup ?_
    unfold addI
    split
    · exact h
    · rename_i hn
      rw [List.nodup_append]
      refine ⟨h, by simp, fun a ha b hb e => ?_⟩
      have : b = k := by simpa using hb
      exact hn (by rw [← this, ← e]; exact ha)
theorem addI_len : ∀ {more ks : List Int}, (more.foldl addI ks).length ≤ ks.length + more.length
  | [], _ => Nat.le_refl _
  | k :: more, ks => by
    rw [List.foldl_cons]
    refine Nat.le_trans addI_len ?_
    unfold addI
    split
    · simp
    · simp; omega
/-- the numbers once each, in order -/
def onceI (ks : List Int) : List Int := (ks.foldl addI []).mergeSort fun a b => decide (a ≤ b)
theorem mem_onceI {k : Int} {ks : List Int} : k ∈ onceI ks ↔ k ∈ ks := by
  unfold onceI
  rw [(List.mergeSort_perm _ _).mem_iff, mem_addI]
  simp
theorem onceI_ext {xs ys : List Int} (h : ∀ k, k ∈ xs ↔ k ∈ ys) : onceI xs = onceI ys := by
  have pw : ∀ l : List Int, (l.mergeSort fun a b => decide (a ≤ b)).Pairwise (fun a b => a ≤ b) := fun l => by
    have q := List.pairwise_mergeSort (le := fun a b : Int => decide (a ≤ b)) (fun a b c h1 h2 => by simp at *; omega) (fun a b => by simp; omega) l
    exact q.imp fun h => by simpa using h
  refine List.Perm.eq_of_pairwise (le := fun a b => a ≤ b) (fun a b _ _ h1 h2 => Int.le_antisymm h1 h2) (pw _) (pw _) ?_
  refine ((List.mergeSort_perm _ _).trans ?_).trans (List.mergeSort_perm _ _).symm
  refine (List.perm_ext_iff_of_nodup (addI_nodup (by simp)) (addI_nodup (by simp))).mpr fun k => ?_
  rw [mem_addI, mem_addI, h]
theorem keys_merge : ∀ {more : List (Int × V)} {ks : List Int} {kvs : List (Key × V)}, kvs.map (·.1) = ks.map Sum.inl → (mergeK kvs (more.map fun p => (Sum.inl p.1, p.2))).map (·.1) = ((more.map (·.1)).foldl addI ks).map Sum.inl
  | [], _, _, h => h
  | p :: more, ks, kvs, h => by
    show (mergeK (putK kvs (.inl p.1) p.2) (more.map fun p => (Sum.inl p.1, p.2))).map (·.1) = _
    rw [List.map_cons, List.foldl_cons]
    refine keys_merge ?_
    unfold putK addI
    have an : (kvs.any fun kv => decide (kv.1 = (.inl p.1 : Key))) = decide (p.1 ∈ ks) := by
      have e : (kvs.any fun kv => decide (kv.1 = (.inl p.1 : Key))) = (kvs.map (·.1)).any fun k => decide (k = (.inl p.1 : Key)) := by rw [List.any_map]; rfl
      rw [e, h, List.any_map]
      by_cases m : p.1 ∈ ks
      · rw [decide_eq_true m, List.any_eq_true]
        exact ⟨p.1, m, by simp⟩
      · rw [decide_eq_false m, List.any_eq_false]
        intro a ha z
        have : a = p.1 := by simpa using z
        exact m (this ▸ ha)
    rw [an]
    by_cases m : p.1 ∈ ks
    · rw [decide_eq_true m, if_pos rfl, if_pos m, ← h, List.map_map]
      refine List.map_congr_left fun a _ => ?_
      show (if a.1 = (.inl p.1 : Key) then (a.1, p.2) else a).1 = a.1
      split <;> rfl
    · rw [decide_eq_false m, if_neg (by decide), if_neg m, List.map_append, List.map_append, h]
      rfl
def pairI (p : Int × PyData) : PyData := .tuple [.int p.1, p.2]
theorem pairsI {K : PySem.W.Frag} {B : Hp} : ∀ {kvs : List (Int × PyData)} {vs : List V}, DpAll K B vs (kvs.map pairI) → ∃ (ps : List Addr) (rs : List (Int × V)), vs = ps.map V.ref ∧ rs.map (·.1) = kvs.map (·.1) ∧ Paired (fun p (kv : Key × V) => SqT K B p [kV kv.1, kv.2]) ps (rs.map fun p => (Sum.inl p.1, p.2))
  | [], _, h => by cases h; exact ⟨[], [], rfl, rfl, .nil⟩
  | p :: kvs, _, .cons h t => by
    obtain ⟨ps, rs, e1, e2, e3⟩ := pairsI t
    have h' : Dp K B _ (.tuple [.int p.1, p.2]) := h
    cases h' with
    | @tup T us _ hs _ ht =>
    cases ht with
    | cons t1 t2 =>
    cases t2 with
    | cons t2 t3 =>
    cases t3
    cases t1
    rename_i v2
    exact ⟨T :: ps, (p.1, v2) :: rs, by rw [e1]; rfl, by simp [e2], .cons hs e3⟩
section
variable {X : Cx} {ρ ρ' ρ1 ρ2 ρ3 : Env'} {a b c e tg iter : Expr} {es : List Expr} {pos p p1 p2 p3 : Pos} {xs ys : List PyData} {kvs : List (Int × PyData)}
theorem dl_onceI (hc : X.calm = true) (h : DLd X ρ e (kvs.map pairI) ρ1) (hz : kvs.length < 64) (md : X.mg "dict" = none) (ms : X.mg "sorted" = none) (hg : Gl X "dict" := by rfl) (hg2 : Gl X "sorted" := by rfl)
    (he : starEach [e] X.env = (false, eval e X.env) :: starEach [] X.env := by rfl) (hpl : (backTo p2 (starEach [] X.env)).any (·.1) = false := by rfl)
    (he2 : starEach [.Call (.Name "dict" p1) [e] [] p2] X.env = (false, eval (.Call (.Name "dict" p1) [e] [] p2) X.env) :: starEach [] X.env := by rfl) (hpl2 : (backTo pos (starEach [] X.env)).any (·.1) = false := by rfl) :
    DL X ρ (.Call (.Name "sorted" p) [.Call (.Name "dict" p1) [e] [] p2] [] pos) ((onceI (kvs.map (·.1))).map .int) ρ1 := fun F Z B H σ Q k q =>
  ⟨_, pe_callB (call_sortedDI hc) hg2 ms PyProof.Rows.boot_sorted (pa_cons (pe_callTy (call_dictP hc) hg md PyProof.Rows.boot_dict (pa_cons pe_s pa_nil he) (by decide) (by decide) he hpl) pa_nil he2) (by decide) (by decide) he2 hpl2, h F Z B H σ _ k fun a us B1 H1 k1 x1 hs t => by
    obtain ⟨ps, rs, e1, e2, e3⟩ := pairsI t
    subst e1
    have mono : ∀ {l : List Addr} {m : List (Key × V)}, Paired (fun p (kv : Key × V) => SqT X.K B1 p [kV kv.1, kv.2]) l m → Paired (fun p (kv : Key × V) => SqT X.K H1 p [kV kv.1, kv.2]) l m := by
      intro l m r
      induction r with
      | nil => exact .nil
      | cons h _ ih => exact .cons (h.imp k1.exB.rd id) ih
    refine ⟨a, ps, _, rfl, hs, mono e3, fun d hd => ?_⟩
    have ek : (mergeK [] (rs.map fun p => (Sum.inl p.1, p.2))).map (·.1) = ((rs.map (·.1)).foldl addI []).map Sum.inl := keys_merge (ks := []) rfl
    have len : ((rs.map (·.1)).foldl addI []).length < 64 := by
      refine Nat.lt_of_le_of_lt addI_len ?_
      rw [e2, List.length_map]
      simpa using hz
    refine ⟨d, _, _, rfl, .inl upd_same, ek, len, fun zs l hp hs2 hl => ?_⟩
    have ez : zs = onceI (kvs.map (·.1)) := by
      rw [← e2]
      refine List.Perm.eq_of_pairwise (le := fun a b => a ≤ b) (fun a b _ _ h1 h2 => Int.le_antisymm h1 h2) hs2 ?_ (hp.trans (List.mergeSort_perm _ _).symm)
      have q := List.pairwise_mergeSort (le := fun a b : Int => decide (a ≤ b)) (fun a b c h1 h2 => by simp at *; omega) (fun a b => by simp; omega) ((rs.map (·.1)).foldl addI [])
      exact q.imp fun h => by simpa using h
    subst ez
    have k2 := k1.loose hd (.dK (mergeK [] (rs.map fun p => (Sum.inl p.1, p.2))))
    exact q l _ B1 _ (k2.loose hl _) x1 (k2.laid hl _) upd_same (dpAll_ints _)⟩
end
end G

set_option Elab.async false
set_option linter.all false
set_option maxRecDepth 100000
set_option maxHeartbeats 4000000
/- what the defs lean on -/
namespace G
open PySem L2 PySem.Spec PyProof.Rows
theorem range_get {n i : Nat} {x : PyData} (h : (rangeD 0 ((n : Int)).toNat)[i]? = some x) : i < n ∧ x = .int i := by
  have hi : i < n := by
    have q := (List.getElem?_eq_some_iff.mp h).1
    rw [rangeD_len] at q
    simpa using q
  rw [rangeD_at (by simpa using hi)] at h
  exact ⟨hi, by rw [← Option.some.inj h]; simp⟩
/-- the built-in names that nobody writes -/
structure Bt (mg : Str → Option Value) : Prop where
  len_ : mg "len" = none
  range_ : mg "range" = none
  tuple_ : mg "tuple" = none
  sorted_ : mg "sorted" = none
  enumerate_ : mg "enumerate" = none
  repr_ : mg "repr" = none
  abs_ : mg "abs" = none
  int_ : mg "int" = none
  max_ : mg "max" = none
  min_ : mg "min" = none
  set_ : mg "set" = none
  dict_ : mg "dict" = none
  any_ : mg "any" = none
  all_ : mg "all" = none
  list_ : mg "list" = none
  sum_ : mg "sum" = none
  isinstance_ : mg "isinstance" = none
  bool_ : mg "bool" = none
  str_ : mg "str" = none
  zip_ : mg "zip" = none
/-- what is known of a def: where it stands, what it keeps -/
structure Df (K : PySem.W.Frag) (mg : Str → Option Value) (x : Str) (st : Stmt) (f : Addr) (fd : FuncData) (ps : List Str) : Prop where
  fn : Fun K x x st f fd
  mg : mg x = some (.ref f)
  kp : PySem.W.keepIn K (.ref f) = true
  bd : Binds K fd ps []
end G

set_option linter.all false
set_option maxRecDepth 100000
/- the defs, by places -/
namespace G
open PySem L2
def top (i : Nat) : Stmt := PySem.Challenge.pw_webstoldapart_k20_whole_counted_alike.main.body.getD i (.Pass ⟨0, 0, 0, 0⟩)
abbrev s_row_eye : Stmt := top 1
abbrev s_each_once : Stmt := top 2
abbrev s_rank_type : Stmt := top 3
abbrev s_are_kept : Stmt := top 4
abbrev s_type_counts : Stmt := top 6
abbrev s_are_counted_alike : Stmt := top 7
abbrev s_summed : Stmt := top 9
abbrev s_web_beside : Stmt := top 10
abbrev s_all_beside : Stmt := top 11
abbrev sOpen : Stmt := top 13
abbrev sPickB : Stmt := top 14
abbrev s__law_of : Stmt := top 15
abbrev sAny : Stmt := top 16
abbrev s__law_told_web : Stmt := top 17
abbrev s__law_web : Stmt := top 18
abbrev s__law_called : Stmt := top 19
abbrev s__law_other : Stmt := top 20
abbrev s__law_is_same : Stmt := top 21
abbrev s__law_is_kept : Stmt := top 22
abbrev s__law_eye : Stmt := top 23
abbrev sOnce2 : Stmt := top 24
abbrev s__law_type : Stmt := top 25
abbrev s__law_counts : Stmt := top 26
abbrev s__law_are_alike : Stmt := top 27
abbrev sLaw : Stmt := top 28
end G

set_option Elab.async false
set_option linter.all false
set_option maxRecDepth 100000
set_option maxHeartbeats 4000000
/- things once each, in order, walked -/
namespace G
open PySem L2 PySem.Spec PyProof.Rows
theorem putAll_const (v : PyData) : ∀ (more ks : List NestedKey), putAllN (ks.map fun k => (k, v)) (more.map fun k => (k, v)) = (more.foldl addK ks).map fun k => (k, v)
  | [], _ => rfl
  | k :: more, ks => by
    have e : putN (ks.map fun k => (k, v)) k v = (addK ks k).map fun k => (k, v) := by
      unfold putN addK
      have ef : (ks.map fun k => (k, v)).map (·.1) = ks := by rw [List.map_map]; exact List.map_id _
      rw [ef]
      split
      · rw [List.map_map]
        refine List.map_congr_left fun a _ => ?_
        show (if a = k then (a, v) else (a, v)) = _
        split <;> rfl
      · rw [List.map_append]; rfl
    show putAllN (putN (ks.map fun k => (k, v)) k v) (more.map fun k => (k, v)) = _
    rw [e, putAll_const v more, List.foldl_cons]
theorem dl_is {X : Cx} {ρ ρ1 : Env'} {e : Expr} {xs ys : List PyData} (h : xs = ys) (q : DL X ρ e xs ρ1) : DL X ρ e ys ρ1 := h ▸ q
/-- the keys once each, in order -/
def onceK (ks : List NestedKey) : List NestedKey := sortK (ks.foldl addK [])
theorem mem_onceK {k : NestedKey} {ks : List NestedKey} : k ∈ onceK ks ↔ k ∈ ks := by
  unfold onceK
  rw [mem_sortK, mem_addAll]
  simp
theorem onceK_ext {xs ys : List NestedKey} (h : ∀ k, k ∈ xs ↔ k ∈ ys) (ha : ∀ a ∈ xs, ∀ b ∈ xs, PySem.W.alike a.data b.data = true) : onceK xs = onceK ys := by
  refine sortK_ext (addAll_nodup (by simp)) (addAll_nodup (by simp)) (fun k => ?_) fun a ha' b hb' => ?_
  · rw [mem_addAll, mem_addAll, h]
  · exact ha a (by simpa using mem_addAll.mp ha') b (by simpa using mem_addAll.mp hb')
/-- things that can be put in order -/
structure Kin (ks : List NestedKey) : Prop where
  tup : ∀ k ∈ ks, ∃ a r, k = .tup (a :: r)
  dep : ∀ k ∈ ks, k.depth ≤ 8
  al : ∀ a ∈ ks, ∀ b ∈ ks, PySem.W.alike a.data b.data = true
def psOnce (ds : List PyData) (d : PyData) : Prop := (∃ ks : List Int, ks.length < 64 ∧ ds = [.list (ks.map .int)] ∧ d = .tuple ((onceI ks).map .int)) ∨ (∃ ks : List NestedKey, ks.length < 1000 ∧ Kin ks ∧ ds = [.list (ks.map NestedKey.data)] ∧ d = (NestedKey.tup (onceK ks)).data)
end G

set_option Elab.async false
set_option linter.all false
set_option maxRecDepth 100000
set_option maxHeartbeats 4000000
/- webs, the sort between two names, looks, walked -/
namespace G
open PySem L2 PySem.Spec PyProof.Rows
/-! ### keys of numbers and tuples alone -/
inductive Pl : NestedKey → Prop
  | num {i : Int} : Pl (.num i)
  | tup {ks : List NestedKey} : (∀ k ∈ ks, Pl k) → Pl (.tup ks)
theorem canLay_alls : ∀ {ks : List NestedKey}, (∀ k ∈ ks, k.data.canLay0 = true) → PyData.canLayAll0 (NestedKey.datas ks) = true
  | [], _ => by simp [NestedKey.datas, PyData.canLayAll0]
  | k :: ks, h => by
    simp only [NestedKey.datas, PyData.canLayAll0, h k List.mem_cons_self, canLay_alls fun a ha => h a (List.mem_cons_of_mem _ ha)]
    rfl
theorem pl_canLay {k : NestedKey} (h : Pl k) : k.data.canLay0 = true := by
  induction h with
  | num => simp [NestedKey.data, PyData.canLay0]
  | tup _ ih =>
    simp only [NestedKey.data, PyData.canLay0]
    exact canLay_alls ih
theorem pl_shaped {k : NestedKey} (h : Pl k) (hd : k.depth ≤ 64) : SeqAt.shaped k.data = true := by
  show (k.data.canLay0 && decide (k.data.depth ≤ 64)) = true
  rw [pl_canLay h, nk_depth, decide_eq_true hd]; rfl
/-! ### webs -/
structure Wb where
  n : Nat
  col : List Int
  arr : List (Int × Int)
def pK (p : Int × Int) : NestedKey := .tup [.num p.1, .num p.2]
def wbK (W : Wb) : NestedKey := .tup [.num W.n, .tup (W.col.map .num), .tup (W.arr.map pK)]
def wbD (W : Wb) : PyData := .tuple [.int W.n, .tuple (W.col.map .int), .tuple ((W.arr.map pK).map NestedKey.data)]
theorem wbK_data (W : Wb) : (wbK W).data = wbD W := by
  unfold wbK wbD
  rw [NestedKey.data, NestedKey.datas, NestedKey.datas, NestedKey.datas, NestedKey.datas]
  have e1 : (NestedKey.tup (W.col.map .num)).data = .tuple (W.col.map .int) := by rw [NestedKey.data, datas_map, List.map_map]; rfl
  have e2 : (NestedKey.tup (W.arr.map pK)).data = .tuple ((W.arr.map pK).map NestedKey.data) := by rw [NestedKey.data, datas_map]
  rw [e1, e2]
  rfl
theorem pK_inj {p q : Int × Int} (h : pK p = pK q) : p = q := by
  have e := NestedKey.tup.inj h
  injection e with e1 e
  injection e with e2 _
  exact Prod.ext (NestedKey.num.inj e1) (NestedKey.num.inj e2)
theorem pK_pl (p : Int × Int) : Pl (pK p) := .tup fun k hk => by
  rcases List.mem_cons.mp hk with rfl | hk
  · exact .num
  · rw [List.mem_singleton.mp hk]; exact .num
theorem pK_depth (p : Int × Int) : (pK p).depth ≤ 1 := by simp [pK, NestedKey.depth, NestedKey.depthAll]
theorem arr_pl (l : List (Int × Int)) : Pl (.tup (l.map pK)) := .tup fun k hk => by
  obtain ⟨p, _, rfl⟩ := List.mem_map.mp hk
  exact pK_pl p
theorem arr_depth (l : List (Int × Int)) : (NestedKey.tup (l.map pK)).depth ≤ 2 := by
  rw [NestedKey.depth]
  have : NestedKey.depthAll (l.map pK) ≤ 1 := depthAll_le fun k hk => by
    obtain ⟨p, _, rfl⟩ := List.mem_map.mp hk
    exact pK_depth p
  omega
theorem arr_shaped (l : List (Int × Int)) : SeqAt.shaped (.tuple ((l.map pK).map NestedKey.data)) = true := by
  have e : (NestedKey.tup (l.map pK)).data = .tuple ((l.map pK).map NestedKey.data) := by rw [NestedKey.data, datas_map]
  rw [← e]
  exact pl_shaped (arr_pl l) (Nat.le_trans (arr_depth l) (by omega))
/-- what is asked of a web -/
structure Wb.Ok (W : Wb) : Prop where
  n9 : W.n ≤ 20
  lc : W.col.length = W.n
/-- 1 for an arrow there, 2 for one back -/
def sortB (W : Wb) (x y : Int) : Int := (if (x, y) ∈ W.arr then 1 else 0) + 2 * (if (y, x) ∈ W.arr then 1 else 0)
theorem sortB_nn (W : Wb) (x y : Int) : 0 ≤ sortB W x y := by
  unfold sortB
  split <;> split <;> decide
theorem in_arr (W : Wb) (x y : Int) : (((W.arr.map pK).map NestedKey.data).any fun z => PyData.eqv z (pK (x, y)).data) = decide ((x, y) ∈ W.arr) := by
  rw [any_nk]
  by_cases h : (x, y) ∈ W.arr
  · rw [decide_eq_true h, decide_eq_true (List.mem_map_of_mem h)]
  · rw [decide_eq_false h, decide_eq_false fun z => ?_]
    obtain ⟨p, hp, e⟩ := List.mem_map.mp z
    exact h (pK_inj e ▸ hp)
end G

set_option Elab.async false
set_option linter.all false
set_option maxRecDepth 100000
set_option maxHeartbeats 4000000
/- looks of names, walked -/
namespace G
open PySem L2 PySem.Spec PyProof.Rows
section
variable {X : Cx} {ρ ρ' ρ1 ρ2 : Env'} {tg a b c e : Expr} {pos : Pos} {st : Stmt} {rest sts as bs : List Stmt} {o : O} {d : PyData}
theorem db_rtW (h : DB X ρ sts (.rt d ρ1)) (w : Wk ρ1 ρ2) : DB X ρ sts (.rt d ρ2) := fun F Z B H σ D k q => h F Z B H σ D k fun v B' H' σ' k' x => q v B' H' σ' (k'.weak w) x
theorem ds_asg {js : List Nat} (he : DE X ρ e (.d d) ρ1) (hg : DG X ρ1 tg d js ρ2) (hs : swapsWithSole [tg] e pos.line X.env = pure false := by rfl) (hw : swappedStores [tg] e X.env = pure none := by rfl)
    (h1 : (assignEach [tg] X.env).map (·.2) = [assign tg X.env] := by rfl) : DS X ρ (.Assign [tg] e pos) (.nx ρ2) := fun F Z B H σ D k q =>
  ⟨_, ps_asg pe_s pg_s hs hw h1, he F Z B H σ _ k fun v B1 H1 k1 x1 w1 => hg F Z B1 H1 σ v _ k1 w1 fun B2 H2 σ2 k2 x2 _ => q B2 H2 σ2 k2 (x1.trans x2)⟩
theorem dt_neSame {x : Str} (ha : DE X ρ a (.d (.str x)) ρ1) (hb : DE X ρ1 b (.d (.str x)) ρ2) : DT X ρ (.Compare a [.NotEq] [b] pos) false ρ2 := dt_is (dt_neS ha hb) (by simp)
theorem dw_orF {es : List Expr} (h : DT X ρ a false ρ1) (h1 : DW X ρ1 (.BoolOp .Or (b :: es) pos) false ρ2) : DW X ρ (.BoolOp .Or (a :: b :: es) pos) false ρ2 := dw_or h (fun _ => h1) (fun z => nomatch z)
theorem dw_andF {es : List Expr} (h : DT X ρ a false ρ1) : DW X ρ (.BoolOp .And (a :: b :: es) pos) false ρ1 := dw_and (y := false) h (fun z => nomatch z) (fun _ => rfl)
theorem dw_andT {es : List Expr} {y : Bool} (h : DT X ρ a true ρ1) (h1 : DW X ρ1 (.BoolOp .And (b :: es) pos) y ρ2) : DW X ρ (.BoolOp .And (a :: b :: es) pos) y ρ2 := by
  have q := dw_and (y := y) h (fun _ => h1) (fun z => nomatch z)
  rw [Bool.true_and] at q
  exact q
end
def nameD (x : Int) : PyData := .int x
def inD (f : Int → Bool) : PyData → Bool
  | .int x => f x
  | _ => false
def intD (f : Int → PyData) : PyData → PyData
  | .int x => f x
  | x => x
theorem filter_ints (f : Int → Bool) (l : List Int) : (l.map PyData.int).filter (inD f) = (l.filter f).map PyData.int := by
  rw [List.filter_map]; rfl
theorem map_ints (f : Int → PyData) (l : List Int) : (l.map PyData.int).map (intD f) = l.map f := by
  rw [List.map_map]; rfl
/-- the names of a web -/
def names (n : Nat) : List Int := (List.range n).map fun (i : Nat) => (i : Int)
theorem names_D (n : Nat) : rangeD 0 ((n : Int)).toNat = (names n).map PyData.int := by
  unfold rangeD names
  rw [List.map_map, Int.toNat_natCast]
  refine List.map_congr_left fun i _ => ?_
  show PyData.int (0 + (i : Int)) = .int (i : Int)
  rw [Int.zero_add]
theorem names_len (n : Nat) : (names n).length = n := by unfold names; simp
theorem mem_names {n : Nat} {x : Int} : x ∈ names n ↔ 0 ≤ x ∧ x < n := by
  unfold names
  rw [List.mem_map]
  constructor
  · rintro ⟨i, hi, rfl⟩
    have := List.mem_range.mp hi
    omega
  · rintro ⟨h1, h2⟩
    exact ⟨x.toNat, List.mem_range.mpr (by omega), by omega⟩
def colAt (W : Wb) (x : Int) : Int := W.col.getD x.toNat 0
theorem at_col {W : Wb} (h : W.Ok) {x : Int} (hx : x ∈ names W.n) : atI (W.col.map PyData.int) x = some (.int (colAt W x)) := by
  obtain ⟨h1, h2⟩ := mem_names.mp hx
  have hl := h.lc
  have hi : x.toNat < W.col.length := by omega
  unfold atI
  have : ixN (W.col.map PyData.int).length x = some x.toNat := by
    unfold ixN
    rw [List.length_map]
    simp [h1]
    omega
  rw [this]
  show (W.col.map PyData.int)[x.toNat]? = _
  unfold colAt
  rw [List.getElem?_map, List.getD_eq_getElem?_getD, List.getElem?_eq_getElem hi]
  rfl
/-- what ties a name to others: the sorts, with their colors -/
def nearS (W : Wb) (x : Int) : List (Int × Int) := (((names W.n).filter fun y => !decide (y = x)).map fun y => (sortB W x y, colAt W y)).filter fun p => decide (0 < p.1)
def nearK (W : Wb) (x : Int) : NestedKey := .tup (onceK ((nearS W x).map pK))
theorem kin_pairs (l : List (Int × Int)) : Kin (l.map pK) := by
  refine ⟨fun k hk => ?_, fun k hk => ?_, fun a ha b hb => ?_⟩
  · obtain ⟨p, _, rfl⟩ := List.mem_map.mp hk
    exact ⟨_, _, rfl⟩
  · obtain ⟨p, _, rfl⟩ := List.mem_map.mp hk
    exact Nat.le_trans (pK_depth p) (by omega)
  · obtain ⟨p, _, rfl⟩ := List.mem_map.mp ha
    obtain ⟨q, _, rfl⟩ := List.mem_map.mp hb
    simp [pK, NestedKey.data, NestedKey.datas, PySem.W.alike, PySem.W.alikeAll]
theorem psOnce_k {ks : List NestedKey} (h : ks.length < 1000) (k : Kin ks) : psOnce [.list (ks.map NestedKey.data)] (NestedKey.tup (onceK ks)).data := .inr ⟨ks, h, k, rfl, rfl⟩
theorem psOnce_i {ks : List Int} (h : ks.length < 64) : psOnce [.list (ks.map .int)] (.tuple ((onceI ks).map .int)) := .inl ⟨ks, h, rfl, rfl⟩
theorem mem_pKs {p : Int × Int} {l : List (Int × Int)} : pK p ∈ l.map pK ↔ p ∈ l := by
  rw [List.mem_map]
  exact ⟨fun ⟨q, h, e⟩ => pK_inj e ▸ h, fun h => ⟨p, h, rfl⟩⟩
end G

set_option Elab.async false
set_option linter.all false
set_option maxRecDepth 100000
set_option maxHeartbeats 4000000
/- far looks, walked -/
namespace G
open PySem L2 PySem.Spec PyProof.Rows
def numsK (l : List Int) : NestedKey := .tup (l.map .num)
theorem numsK_data (l : List Int) : (numsK l).data = .tuple (l.map .int) := by
  unfold numsK
  rw [NestedKey.data, datas_map, List.map_map]; rfl
def farS (W : Wb) (x : Int) : List Int := (names W.n).filter fun y => !decide (y = x) && decide (sortB W x y = 0)
def farK (W : Wb) (x : Int) : NestedKey := .tup [.num (colAt W x), nearK W x, numsK (onceI ((farS W x).map (colAt W)))]
theorem look_data (c : Int) (k : NestedKey) (l : List Int) : (NestedKey.tup [.num c, k, numsK l]).data = .tuple [.int c, k.data, .tuple (l.map .int)] := by
  rw [NestedKey.data, NestedKey.datas, NestedKey.datas, NestedKey.datas, NestedKey.datas, numsK_data]
  rfl
end G

set_option Elab.async false
set_option linter.all false
set_option maxRecDepth 100000
set_option maxHeartbeats 4000000
/- a new list, times a number -/
namespace G
open PySem L2 PySem.Spec PyProof.Rows
theorem DpAll.rep {K : PySem.W.Frag} {B : Hp} {vs : List V} {xs : List PyData} (h : DpAll K B vs xs) : ∀ k : Nat, DpAll K B (List.replicate k vs).flatten (List.replicate k xs).flatten
  | 0 => .nil
  | k + 1 => by
    rw [List.replicate_succ, List.replicate_succ, List.flatten_cons, List.flatten_cons]
    exact G.DpAll.append h (DpAll.rep h k)
section
variable {X : Cx} {ρ ρ1 ρ2 : Env'} {a b : Expr} {pos : Pos} {xs : List PyData} {k : Int}
theorem dl_rep (h0 : 0 ≤ k) (h1 : k < 1000) (hz : xs.length * k.toNat ≤ sizeLine) (ha : DL X ρ a xs ρ1) (hb : DE X ρ1 b (.d (.int k)) ρ2) : DL X ρ (.BinOp a .Mult b pos) (List.replicate k.toNat xs).flatten ρ2 := fun F Z B H σ Q kk q =>
  ⟨_, pe_op op_rep pe_s pe_s, ha F Z B H σ _ kk fun p us B1 H1 k1 x1 n1 hp1 t1 => by
    refine hb _ _ B1 H1 σ _ (k1.lock n1 hp1) fun v2 B2 H2 k2 x2 w2 => ?_
    obtain ⟨k3, n3, h3⟩ := k2.unlock n1.f n1.z
    have l1 := DpAll.length t1
    cases w2
    refine ⟨p, k, us, rfl, rfl, h3, by omega, by omega, by rw [l1]; exact hz, fun l hl => ?_⟩
    exact q l _ B2 _ (k3.loose hl _) (x1.trans x2) (k3.laid hl _) upd_same (DpAll.rep (dpAll_mono x2 t1) k.toNat)⟩
end
end G

set_option Elab.async false
set_option linter.all false
set_option maxRecDepth 100000
set_option maxHeartbeats 4000000
/- dicts of our own with whole numbers as keys and values -/
namespace G
open PySem L2 PySem.Spec PyProof.Rows
def kvI (l : List (Int × Int)) : List (Key × PyData) := l.map fun p => (.inl p.1, .int p.2)
def lkI (l : List (Int × Int)) (y : Int) : Option Int := (l.find? fun p => decide (p.1 = y)).map (·.2)
theorem lk_val {K : PySem.W.Frag} {B : Hp} {y : Int} : ∀ {l : List (Int × Int)} {r : List (Key × V)}, KvAll K B r (kvI l) → valV r (.inl y) = (lkI l y).map V.int
  | [], _, h => by cases h; rfl
  | p :: l, _, h => by
    unfold kvI at h
    rw [List.map_cons] at h
    cases h with
    | @cons k v _ r' _ h t =>
    cases h
    have ih := lk_val (y := y) t
    unfold valV lkI at ih ⊢
    rw [List.find?_cons, List.find?_cons]
    by_cases e : p.1 = y
    · have e1 : decide ((Sum.inl p.1 : Key) = .inl y) = true := decide_eq_true (by rw [e])
      have e2 : decide (p.1 = y) = true := decide_eq_true e
      rw [e1, e2]; rfl
    · have e1 : decide ((Sum.inl p.1 : Key) = .inl y) = false := decide_eq_false fun z => e (Sum.inl.inj z)
      have e2 : decide (p.1 = y) = false := decide_eq_false e
      rw [e1, e2]
      exact ih
theorem kvI_put {l : List (Int × Int)} {y v : Int} (h : lkI l y = none) : putD (kvI l) (.inl y) (.int v) = kvI (l ++ [(y, v)]) := by
  have an : ((kvI l).any fun kv => decide (kv.1 = (.inl y : Key))) = false := by
    rw [List.any_eq_false]
    intro q hq z
    unfold kvI at hq
    obtain ⟨p, hp, rfl⟩ := List.mem_map.mp hq
    have e : p.1 = y := by
      have : (Sum.inl p.1 : Key) = .inl y := by simpa using z
      exact Sum.inl.inj this
    unfold lkI at h
    have h' : (l.find? fun p => decide (p.1 = y)) = none := by
      cases q : l.find? fun p => decide (p.1 = y) with
      | none => rfl
      | some _ => rw [q] at h; cases h
    have := List.find?_eq_none.mp h' p hp
    simp [e] at this
  unfold putD
  rw [an, if_neg (by decide)]
  unfold kvI
  rw [List.map_append]; rfl
def optD : Option Int → PyData
  | some v => .int v
  | none => .none
section
variable {X : Cx} {ρ ρ' ρ1 ρ2 ρ3 : Env'} {a b c e : Expr} {es : List Expr} {pos p : Pos} {i : Nat} {l : List (Int × Int)} {y v : Int}
theorem dt_dkNotIn (hu : X.A.units + 100 < cLine) (ha : DE X ρ a (.d (.int y)) ρ1) (hb : DE X ρ1 b (.o i) ρ2) (hs : ρ2[i]? = some (.o (.dk (kvI l))) := by rfl) (hm : behindInMarks .NotIn b = false := by rfl) : DT X ρ (.Compare a [.NotIn] [b] pos) (!(lkI l y).isSome) ρ2 := fun F Z B H σ Q k q =>
  ⟨_, pt_cmp (pc_dnotin (by omega) pe_s pe_s) hm, ha F Z B H σ _ k fun v1 B1 H1 k1 x1 w1 => hb F Z B1 H1 σ _ k1 fun v2 B2 H2 k2 x2 w2 => by
    obtain ⟨v', as, g1, g2, _⟩ := k2.ob (gS_some hs)
    have w' : gV σ i = some v2 := w2
    rw [w'] at g1
    cases g1
    cases w1
    cases g2 with
    | @dk aa r _ h t =>
    have g := DGet.k (k := (.inl y : Key)) h
    rw [lk_val t] at g
    exact ⟨aa, _, rfl, g, _, rfl, by rw [Option.isSome_map]; exact q B2 H2 k2 (x1.trans x2)⟩⟩
theorem ds_dkPutI {y' : PyData} {pos' : Pos} (hu : X.A.units + 100 < cLine) (hz : l.length < 1000000) (hn : lkI l y = none) (hv : DE X ρ e (.d (.int v)) ρ1) (ho : DE X ρ1 a (.o i) ρ2) (hk : DE X ρ2 b (.d (.int y)) ρ3)
    (hs3 : ρ3[i]? = some (.o (.dk (kvI l))) := by rfl) (hs : swapsWith e (some (.Subscript a b pos')) pos.line X.env = pure false := by rfl) : DS X ρ (.Assign [.Subscript a b pos'] e pos) (.nx (ρ3.set i (.o (.dk (kvI (l ++ [(y, v)])))))) := fun F Z B H σ D kk q =>
  ⟨_, ps_dput (by omega) pe_s pe_s pe_s hs, hv F Z B H σ _ kk fun v1 B1 H1 k1 x1 w1 => ho F Z B1 H1 σ _ k1 fun o B2 H2 k2 x2 w2 => hk F Z B2 H2 σ _ k2 fun iv B3 H3 k3 x3 w3 => by
    obtain ⟨v', as, g1, g2, g3⟩ := k3.ob (gS_some hs3)
    have w' : gV σ i = some o := w2
    rw [w'] at g1
    cases g1
    have d0 := g2
    have dv : Dp X.K B1 v1 (.int v) := w1
    cases w3
    cases g2 with
    | @dk aa r _ h t =>
    have hl : r.length = l.length := by rw [t.length]; unfold kvI; rw [List.length_map]
    refine ⟨aa, _, rfl, DPut.k (k := .inl y) h (by rw [hl]; exact Nat.lt_of_lt_of_le hz (by decide)), ?_⟩
    refine q B3 _ σ (k3.turn (gS_some hs3) w' d0 (.dk upd_same ?_) fun c hc => by
      rw [upd_ne fun z => hc (by rw [z]; exact List.mem_singleton.mpr rfl)]) ((x1.trans x2).trans x3)
    rw [← kvI_put hn]
    exact t.put (dp_mono (x2.trans x3) dv)⟩
theorem de_dkGet {apos : Pos} (hu : X.A.units + 100 < cLine) (ho : DE X ρ a (.o i) ρ1) (he : DE X ρ1 e (.d (.int y)) ρ2) (hs0 : ρ1[i]? = some (.o (.dk (kvI l))) := by rfl) (hs : ρ2[i]? = some (.o (.dk (kvI l))) := by rfl) (m : M1 X a "get" apos e pos := by exact ⟨rfl, rfl, rfl, rfl⟩) :
    DE X ρ (.Call (.Attribute a "get" apos) [e] [] pos) (.d (optD (lkI l y))) ρ2 := fun F Z B H σ Q k q =>
  ⟨_, pe_dget1 (by omega) pe_s pe_s m, ho F Z B H σ _ k fun v1 B1 H1 k1 x1 w1 => by
    obtain ⟨v', as, g1, g2, _⟩ := k1.ob (gS_some hs0)
    have w' : gV σ i = some v1 := w1
    rw [w'] at g1
    cases g1
    cases g2 with
    | @dk aa r _ h t =>
    refine ⟨aa, rfl, .inl ⟨r, .inl h⟩, he F Z B1 H1 σ _ k1 fun v2 B2 H2 k2 x2 w2 => ?_⟩
    obtain ⟨v', as, g1, g2, _⟩ := k2.ob (gS_some hs)
    rw [w'] at g1
    cases g1
    cases w2
    cases g2 with
    | @dk _ r _ h t =>
    have g := DGet.k (k := (.inl y : Key)) h
    rw [lk_val t] at g
    refine ⟨_, g, ?_⟩
    cases e : lkI l y with
    | none => exact q .non B2 H2 k2 (x1.trans x2) (by rw [e]; exact .non)
    | some z => exact q (.int z) B2 H2 k2 (x1.trans x2) (by rw [e]; exact .int z)⟩
/-- {k: v}, a new dict of one -/
theorem df_one {j : Nat} (h1 : DE X ρ a (.d (.int y)) ρ1) (h2 : DE X ρ1 b (.d (.int v)) ρ2) : DF X ρ (.Dict [some a] [b] pos) (.dk (kvI [(y, v)])) ρ2 := fun F Z B H σ Q k q =>
  ⟨_, pe_disp (pps_cons pe_s pe_s pps_nil) rfl rfl (by intro z; cases z) (by simp), fun d hd => by
    obtain ⟨af, ab, az⟩ := k.fresh hd
    have kl := (k.loose hd (.dK [])).lock (k.laid hd (.dK [])) upd_same
    refine h1 _ _ B _ σ _ kl fun v1 B1 H1 k1 x1 w1 => h2 _ _ B1 H1 σ _ k1 fun v2 B2 H2 k2 x2 w2 => ?_
    cases w1; cases w2
    obtain ⟨k6, n6, h6⟩ := k2.unlock af az
    refine ⟨h6, [(.inl y, .int v)], rfl, by simp, ?_⟩
    exact q d B2 _ (k6.poke n6) (x1.trans x2) (n6.poke k6) (.dk upd_same (.cons (.int v) .nil))⟩
end
end G

set_option Elab.async false
set_option linter.all false
set_option maxRecDepth 100000
set_option maxHeartbeats 4000000
/- a, b, c = {..}, [..], d -/
namespace G
open PySem L2 PySem.Spec PyProof.Rows
section
variable {K : PySem.W.Frag} {F : Hp} {Z : Addr → Prop} {B H : Hp} {σ : L2.St} {ρ : Env'} {p q : Addr}
theorem New.setO (n : New K F Z B H σ ρ q) {i : Nat} {v : V} {as : List Addr} {b : Ob} (hl : σ.length = ρ.length) (h : ObAt K B H v as b) (hq : q ∉ as) : New K F Z B H (σ.set i (some v)) (ρ.set i (.o b)) q := by
  refine ⟨n.f, n.b, n.z, fun j b' v' as' g1 g2 g3 => ?_⟩
  rw [gS_set] at g1
  rw [gV_set, hl] at g2
  by_cases e : j = i ∧ i < ρ.length
  · rw [if_pos e] at g1 g2
    cases g1
    cases g2
    rw [ObAt.uni g3 h fun _ _ => rfl]
    exact hq
  · rw [if_neg e] at g1 g2
    exact n.o j b' v' as' g1 g2 g3
theorem New.less {o : HO} (n : New K (upd F p o) (fun a => Z a ∨ a = p) B H σ ρ q) : New K F Z B H σ ρ q ∧ q ≠ p := by
  have ne : q ≠ p := fun e => n.z (.inr e)
  refine ⟨⟨?_, n.b, fun z => n.z (.inl z), n.o⟩, ne⟩
  have f := n.f
  rw [upd_ne ne] at f
  exact f
end
section
variable {X : Cx} {ρ ρ' ρ1 ρ2 ρ3 : Env'} {a b c : Expr} {pos : Pos} {ys : List PyData} {d3 : PyData} {b1 : Ob}
theorem ds_asg3 {i j m : Nat} {x y z : Str} {s1 s2 : Sl} {px py pz pt pt2 : Pos} {kt k2} (hc : X.calm = true) (hN : X.N.Nodup) (h1 : DF X ρ a b1 ρ1) (h2 : DL X ρ1 b ys ρ2) (h3 : DE X ρ2 c (.d d3) ρ3) (hij : i ≠ j)
    (hr1 : ρ3[i]? = some s1 := by rfl) (hr2 : ρ3[j]? = some s2 := by rfl) (hi : X.N[i]? = some x := by rfl) (hj : X.N[j]? = some y := by rfl) (hm : X.N[m]? = some z := by rfl)
    (lx : Loc X.env.scope x := by first | exact Or.inl rfl | exact Or.inr rfl) (ly : Loc X.env.scope y := by first | exact Or.inl rfl | exact Or.inr rfl) (lz : Loc X.env.scope z := by first | exact Or.inl rfl | exact Or.inr rfl)
    (fx : X.fn x = true ∨ X.env.scope.names.lookup x = some .local := by first | exact .inl rfl | exact .inr rfl) (fy : X.fn y = true ∨ X.env.scope.names.lookup y = some .local := by first | exact .inl rfl | exact .inr rfl) (fz : X.fn z = true ∨ X.env.scope.names.lookup z = some .local := by first | exact .inl rfl | exact .inr rfl)
    (hs : swapsWithSole [.Tuple [.Name x px, .Name y py, .Name z pz] kt pt] (.Tuple [a, b, c] k2 pt2) pos.line X.env = pure false := by rfl) (hw : swappedStores [.Tuple [.Name x px, .Name y py, .Name z pz] kt pt] (.Tuple [a, b, c] k2 pt2) X.env = pure none := by rfl)
    (hs1 : starEach [a, b, c] X.env = (false, eval a X.env) :: starEach [b, c] X.env := by rfl) (hs2 : starEach [b, c] X.env = (false, eval b X.env) :: starEach [c] X.env := by rfl) (hs3 : starEach [c] X.env = (false, eval c X.env) :: starEach [] X.env := by rfl) :
    DS X ρ (.Assign [.Tuple [.Name x px, .Name y py, .Name z pz] kt pt] (.Tuple [a, b, c] k2 pt2) pos) (.nx (((ρ3.set i (.o b1)).set j (.o (.lst ys))).set m (.d d3))) := fun F Z B H σ D k q =>
  ⟨_, ps_asg (pe_tup (pa_cons pe_s (pa_cons pe_s (pa_cons pe_s pa_nil hs3) hs2) hs1)) (pg_tup (n := 3) hc (pgs_cons (pg_name hN hi lx fx) (pgs_cons (pg_name hN hj ly fy) (pgs_cons (pg_name hN hm lz fz) pgs_nil)))) hs hw,
    h1 F Z B H σ _ k fun p1 B1 H1 k1 x1 n1 ob1 => by
    obtain ⟨o1, ho1⟩ := ob1.live p1 List.mem_cons_self
    refine h2 _ _ B1 H1 σ _ (k1.lock n1 ho1) fun p2 us B2 H2 k2' x2 n2 hp2 t2 => ?_
    refine h3 _ _ B2 H2 σ _ (k2'.lock n2 hp2) fun v3 B3 H3 k3 x3 w3 => ?_
    obtain ⟨k4, n4, h4⟩ := k3.unlock n2.f n2.z
    obtain ⟨k5, n5, h5⟩ := k4.unlock n1.f n1.z
    obtain ⟨n6, ne⟩ := n4.less
    refine ⟨by show 3 ≤ sizeLine; decide, fun t ht => ?_⟩
    have o3 : ObAt X.K B3 H3 (.ref p1) [p1] b1 := ob1.mono (x2.trans x3) fun a ha => by rw [List.mem_singleton.mp ha, h5, ho1]
    have k7 := k5.loose ht (.tup [.ref p1, .ref p2, v3])
    have keep : ∀ b, b ≠ t → upd H3 t (.tup [.ref p1, .ref p2, v3]) b = H3 b := fun b hb => upd_ne hb
    have t1 : p1 ≠ t := fun e => by rw [← e, h5] at ht; cases ht
    have t2' : p2 ≠ t := fun e => by rw [← e, h4] at ht; cases ht
    have n7 : New X.K F Z B3 (upd H3 t (.tup [.ref p1, .ref p2, v3])) σ ρ3 p1 := n5.other (B' := B3) k5 (fun b hb ⟨o, ho⟩ => keep b fun e => by rw [e, ht] at ho; cases ho) ⟨_, h5⟩
    have n8 : New X.K F Z B3 (upd H3 t (.tup [.ref p1, .ref p2, v3])) σ ρ3 p2 := n6.other (B' := B3) k5 (fun b hb ⟨o, ho⟩ => keep b fun e => by rw [e, ht] at ho; cases ho) ⟨_, h4⟩
    have o7 : ObAt X.K B3 (upd H3 t (.tup [.ref p1, .ref p2, v3])) (.ref p1) [p1] b1 := o3.mono (Sub.refl B3) fun a ha => by rw [List.mem_singleton.mp ha]; exact keep p1 t1
    have o8 : ObAt X.K B3 (upd H3 t (.tup [.ref p1, .ref p2, v3])) (.ref p2) [p2] (.lst ys) := .lst ((keep p2 t2').trans h4) (dpAll_mono x3 t2)
    refine ⟨t, [.ref p1, .ref p2, v3], rfl, SqT.of upd_same, rfl, _, _, rfl, _, _, rfl, _, _, rfl, rfl, ?_⟩
    have i1 : i < ρ3.length := (List.getElem?_eq_some_iff.mp hr1).1
    have j1 : j < ρ3.length := (List.getElem?_eq_some_iff.mp hr2).1
    have k8 := k7.take n7 i1 o7
    have n9 := n8.setO (i := i) (v := .ref p1) k7.len o7 (by simpa using ne)
    have k9 := k8.take n9 (by rw [List.length_set]; exact j1) o8
    exact q B3 _ _ (k9.setD w3) ((x1.trans x2).trans x3)⟩
end
end G

set_option Elab.async false
set_option linter.all false
set_option maxRecDepth 100000
set_option maxHeartbeats 4000000
/- x, y, z = data, [..], [..] -/
namespace G
open PySem L2 PySem.Spec PyProof.Rows
section
variable {X : Cx} {ρ ρ' ρ1 ρ2 ρ3 : Env'} {a b c : Expr} {pos : Pos} {ys zs : List PyData} {d1 : PyData}
theorem ds_par3L {i j m : Nat} {x y z : Str} {s1 s2 : Sl} {px py pz pt pt2 : Pos} {kt k2} (hc : X.calm = true) (hN : X.N.Nodup) (h1 : DE X ρ a (.d d1) ρ1) (h2 : DL X ρ1 b ys ρ2) (h3 : DL X ρ2 c zs ρ3)
    (hr1 : ρ3[j]? = some s1 := by rfl) (hr2 : ρ3[m]? = some s2 := by rfl) (hi : X.N[i]? = some x := by rfl) (hj : X.N[j]? = some y := by rfl) (hm : X.N[m]? = some z := by rfl) (hij : i ≠ j := by decide) (him : i ≠ m := by decide) (hjm : j ≠ m := by decide)
    (lx : X.env.scope.names.lookup x = some .local := by rfl) (ly : X.env.scope.names.lookup y = some .local := by rfl) (lz : X.env.scope.names.lookup z = some .local := by rfl)
    (hw : swappedStores [.Tuple [.Name x px, .Name y py, .Name z pz] kt pt] (.Tuple [a, b, c] k2 pt2) X.env = pure (some [x, y, z]) := by rfl)
    (hs : swapsWithSole [.Tuple [.Name x px, .Name y py, .Name z pz] kt pt] (.Tuple [a, b, c] k2 pt2) pos.line X.env = pure false := by rfl)
    (hs1 : starEach [a, b, c] X.env = (false, eval a X.env) :: starEach [b, c] X.env := by rfl) (hs2 : starEach [b, c] X.env = (false, eval b X.env) :: starEach [c] X.env := by rfl) (hs3 : starEach [c] X.env = (false, eval c X.env) :: starEach [] X.env := by rfl) :
    DS X ρ (.Assign [.Tuple [.Name x px, .Name y py, .Name z pz] kt pt] (.Tuple [a, b, c] k2 pt2) pos) (.nx (((ρ3.set j (.o (.lst ys))).set m (.o (.lst zs))).set i (.d d1))) := fun F Z B H σ D k q =>
  ⟨_, ps_par3 hc hN hi hj hm hij him hjm lx ly lz (pa_cons pe_s (pa_cons pe_s (pa_cons pe_s pa_nil hs3) hs2) hs1) hw hs,
    h1 F Z B H σ _ k fun v1 B1 H1 k1 x1 w1 => by
    refine h2 F Z B1 H1 σ _ k1 fun p2 us2 B2 H2 k2 x2 n2 hp2 t2 => ?_
    refine h3 _ _ B2 H2 σ _ (k2.lock n2 hp2) fun p3 us3 B3 H3 k3 x3 n3 hp3 t3 => ?_
    obtain ⟨k4, n4, h4⟩ := k3.unlock n2.f n2.z
    obtain ⟨n5, ne⟩ := n3.less
    have j1 : j < ρ3.length := (List.getElem?_eq_some_iff.mp hr1).1
    have m1 : m < ρ3.length := (List.getElem?_eq_some_iff.mp hr2).1
    have o2 : ObAt X.K B3 H3 (.ref p2) [p2] (.lst ys) := .lst h4 (dpAll_mono x3 t2)
    have k5 := k4.take n4 j1 o2
    have n6 := n5.setO (i := j) (v := .ref p2) k4.len o2 (by simpa using ne)
    have k6 := k5.take n6 (by rw [List.length_set]; exact m1) (.lst hp3 t3)
    have w2 : Dp X.K B1 v1 d1 := w1
    refine ⟨v1, .ref p2, .ref p3, rfl, ?_⟩
    have e : ((σ.set i (some v1)).set j (some (.ref p2))).set m (some (.ref p3)) = ((σ.set j (some (.ref p2))).set m (some (.ref p3))).set i (some v1) := by
      rw [List.set_comm _ _ hij, List.set_comm _ _ him]
    rw [e]
    exact q B3 H3 _ (k6.setD (dp_mono (x2.trans x3) w2)) ((x1.trans x2).trans x3)⟩
end
end G

set_option Elab.async false
set_option linter.all false
set_option maxRecDepth 100000
set_option maxHeartbeats 4000000
/- rows starred; three names at once -/
namespace G
open PySem L2 PySem.Spec PyProof.Rows
section
variable {X : Cx} {ρ ρ' ρ1 ρ2 ρ3 : Env'} {a b c e : Expr} {es : List Expr} {p pos : Pos} {xs ys : List PyData}
theorem da_starL (h : DE X ρ e (.d (.list xs)) ρ1) (t : DA X ρ1 es ys ρ2) (hs : starEach (.Starred e p :: es) X.env = (true, eval e X.env) :: starEach es X.env := by rfl) : DA X ρ (.Starred e p :: es) (xs ++ ys) ρ2 := fun F Z B H σ Q k q =>
  ⟨_, StX.pa_star pe_s pa_s hs, h F Z B H σ _ k fun v B1 H1 k1 x1 w => by
    obtain ⟨a, vs, e, s, t0⟩ := (RL.d (ρ := ρ1) (xs := xs)).at k1 w
    exact ⟨a, vs, e, .inr s, t F Z B1 H1 σ _ k1 fun us B2 H2 k2 x2 w2 => q _ B2 H2 k2 (x1.trans x2) (G.DpAll.append (dpAll_mono x2 t0) w2)⟩⟩
theorem ds_par3 {i j m : Nat} {x y z : Str} {d1 d2 d3 : PyData} {px py pz pt pt2 : Pos} {kt k2} (hc : X.calm = true) (hN : X.N.Nodup) (ha : DA X ρ [a, b, c] [d1, d2, d3] ρ1) (hi : X.N[i]? = some x := by rfl) (hj : X.N[j]? = some y := by rfl) (hm : X.N[m]? = some z := by rfl) (hij : i ≠ j := by decide) (him : i ≠ m := by decide) (hjm : j ≠ m := by decide)
    (lx : X.env.scope.names.lookup x = some .local := by rfl) (ly : X.env.scope.names.lookup y = some .local := by rfl) (lz : X.env.scope.names.lookup z = some .local := by rfl)
    (hw : swappedStores [.Tuple [.Name x px, .Name y py, .Name z pz] kt pt] (.Tuple [a, b, c] k2 pt2) X.env = pure (some [x, y, z]) := by rfl)
    (hs : swapsWithSole [.Tuple [.Name x px, .Name y py, .Name z pz] kt pt] (.Tuple [a, b, c] k2 pt2) pos.line X.env = pure false := by rfl) :
    DS X ρ (.Assign [.Tuple [.Name x px, .Name y py, .Name z pz] kt pt] (.Tuple [a, b, c] k2 pt2) pos) (.nx (((ρ1.set i (.d d1)).set j (.d d2)).set m (.d d3))) := fun F Z B H σ D k q =>
  ⟨_, ps_par3 hc hN hi hj hm hij him hjm lx ly lz pa_s hw hs, ha F Z B H σ _ k fun vs B1 H1 k1 x1 t => by
    cases t with
    | cons t1 t =>
      cases t with
      | cons t2 t =>
        cases t with
        | cons t3 t =>
          cases t
          exact ⟨_, _, _, rfl, q B1 H1 _ (((k1.setD t1).setD t2).setD t3) x1⟩⟩
end
end G

set_option Elab.async false
set_option linter.all false
set_option maxRecDepth 100000
set_option maxHeartbeats 4000000
/- more rules: pop(i), xs[i] = y, (x,) * n, list(range(n)), any, loops that leave early -/
namespace G
open PySem L2 PySem.Spec PyProof.Rows
theorem DpAll.erase {K : PySem.W.Frag} {B : Hp} : ∀ {vs : List V} {xs : List PyData} (k : Nat), DpAll K B vs xs → DpAll K B (vs.eraseIdx k) (xs.eraseIdx k)
  | _, _, _, .nil => .nil
  | _, _, 0, .cons _ t => t
  | _, _, k + 1, .cons h t => .cons h (DpAll.erase k t)
theorem DpAll.setAt {K : PySem.W.Frag} {B : Hp} {v : V} {x : PyData} (w : Dp K B v x) : ∀ {vs : List V} {xs : List PyData} (k : Nat), DpAll K B vs xs → DpAll K B (vs.set k v) (xs.set k x)
  | _, _, _, .nil => .nil
  | _, _, 0, .cons _ t => .cons w t
  | _, _, k + 1, .cons h t => .cons h (DpAll.setAt w k t)
theorem DpAll.at' {K : PySem.W.Frag} {B : Hp} {x : PyData} : ∀ {vs : List V} {xs : List PyData} {k : Nat}, DpAll K B vs xs → xs[k]? = some x → ∃ v, vs[k]? = some v ∧ Dp K B v x
  | _, _, k, .nil, h => by simp at h
  | v :: vs, y :: ys, 0, .cons w _, h => by
    simp only [List.getElem?_cons_zero, Option.some.injEq] at h
    exact ⟨v, rfl, h ▸ w⟩
  | v :: vs, y :: ys, k + 1, .cons _ t, h => by
    simp only [List.getElem?_cons_succ] at h
    exact DpAll.at' (vs := vs) t h
section
variable {X : Cx} {ρ ρ1 ρ2 ρ' : Env'} {tg iter a b c e : Expr} {pos p p2 p3 : Pos} {xs : List PyData} {body rest as : List Stmt} {o : O}
/-- xs.pop(k), xs a list of our own -/
theorem de_popAt {i : Nat} {x : PyData} {z : Int} {k : Nat} {apos : Pos} (hk : z = (k : Int)) (hz : xs.length ≤ 100000) (hx : xs[k]? = some x) (h0 : DE X ρ a (.o i) ρ1) (h : DE X ρ1 e (.d (.int z)) ρ2) (hs0 : ρ1[i]? = some (.o (.lst xs)) := by rfl) (hs : ρ2[i]? = some (.o (.lst xs)) := by rfl)
    (hbase : attributeBase a "pop" X.env (eval a X.env) = eval a X.env := by rfl)
    (hfew : ((backTo p (starEach [e] X.env)).all (fun x => !x.1) && (backToKw p (keywordEach [] X.env)).all (fun x => x.1.isSome) && decide ([e].length + ([] : List Keyword).length + (if ([] : List Keyword).isEmpty then 0 else 1) < 30)) = true := by rfl)
    (hline : (apos.endLine == p.line) = true := by rfl) (he : starEach [e] X.env = (false, eval e X.env) :: starEach [] X.env := by rfl) (hpl : (backTo p (starEach [] X.env)).any (·.1) = false := by rfl) :
    DE X ρ (.Call (.Attribute a "pop" apos) [e] [] p) (.d x) (ρ2.set i (.o (.lst (xs.eraseIdx k)))) := fun F Z B H σ Q kk q =>
  ⟨_, pe_bm PySem.F.plainAttrs_list PySem.F.slot_list_pop PySem.F.type_list_pop mt_popAt pe_s (pa_cons pe_s pa_nil he) hbase hfew hline he hpl, h0 F Z B H σ _ kk fun v B1 H1 k1 x1 w1 => by
    obtain ⟨v', as, g1, g2, _⟩ := k1.ob (gS_some hs0)
    have w' : gV σ i = some v := w1
    rw [w'] at g1
    cases g1
    cases g2 with
    | @lst l us _ hl t =>
    refine ⟨.inl ⟨rfl, us, SqL.of hl⟩, h F Z B1 H1 σ _ k1 fun u B2 H2 k2 x2 w2 => ?_⟩
    obtain ⟨v', as, g1, g2, _⟩ := k2.ob (gS_some hs)
    rw [w'] at g1
    cases g1
    cases g2 with
    | @lst _ us2 _ hl2 t2 =>
    obtain ⟨y, hy, dy⟩ := DpAll.at' t2 hx
    have ll := DpAll.length t2
    have kl := (List.getElem?_eq_some_iff.mp hx).1
    have dz : Dp X.K B2 u (.int z) := w2
    cases dz
    refine ⟨l, us2, z, k, y, rfl, rfl, hl2, by omega, by omega, ?_, hy, ?_⟩
    · rw [hk, seqIndex_of (by omega) (by omega)]; simp
    refine q y B2 _ (k2.turn (gS_some hs) w' (.lst hl2 t2) (.lst upd_same (G.DpAll.erase k t2)) fun b hb => ?_) (x1.trans x2) dy
    rw [upd_ne fun z => hb (by rw [z]; exact List.mem_singleton.mpr rfl)]⟩
/-- xs[z] = .., xs a list of our own -/
theorem dg_ixL {i j : Nat} {y : PyData} {z : Int} (hj : ixN xs.length z = some j) (ho : DE X ρ a (.o i) ρ1) (hi : DE X ρ1 b (.d (.int z)) ρ2) (hs : ρ2[i]? = some (.o (.lst xs)) := by rfl)
    (ha : ∀ v, assign (.Subscript a b pos) X.env v = (do
      let ov ← holding [v] (eval a X.env)
      let iv ← holding [v, ov] (eval b X.env)
      standAt pos
      holding [v, ov, iv] (setItem ov iv v)
      release [v, ov, iv] []) := by intro _; rfl) : DG X ρ (.Subscript a b pos) y [] (ρ2.set i (.o (.lst (xs.set j y)))) := fun F Z B H σ v Q k w q =>
  ⟨_, pg_sub pe_s pe_s set_list ha, ho F Z B H σ _ k fun ov B1 H1 k1 x1 w1 => hi F Z B1 H1 σ _ k1 fun iv B2 H2 k2 x2 w2 => by
    obtain ⟨v', as, g1, g2, _⟩ := k2.ob (gS_some hs)
    have w' : gV σ i = some ov := w1
    rw [w'] at g1
    cases g1
    cases g2 with
    | @lst l us _ hl t =>
    have dz : Dp X.K B2 iv (.int z) := w2
    cases dz
    refine ⟨l, us, z, j, rfl, rfl, hl, by rw [DpAll.length t]; exact hj, ?_⟩
    refine q B2 _ σ (k2.turn (gS_some hs) w' (.lst hl t) (.lst upd_same (G.DpAll.setAt (dp_mono (x1.trans x2) w) j t)) fun b hb => ?_) (x1.trans x2) fun _ _ => rfl
    rw [upd_ne fun z => hb (by rw [z]; exact List.mem_singleton.mpr rfl)]⟩
theorem rg_rangeD {K : PySem.W.Frag} {B : Hp} (n : Int) : DpAll K B (rgV 0 n) (rangeD 0 n.toNat) := by
  unfold rgV rangeD
  rw [show (n - 0).toNat = n.toNat by omega]
  induction List.range n.toNat with
  | nil => exact .nil
  | cons i l ih => exact .cons (.int _) ih
/-- list(range(n)) -/
theorem dl_listRg {n : Int} (hc : X.calm = true) (ml : X.mg "list" = none) (mr : X.mg "range" = none) (hn : 0 ≤ n ∧ n ≤ 100000) (h : DE X ρ e (.d (.int n)) ρ1) (hgl : Gl X "list" := by rfl) (hgr : Gl X "range" := by rfl)
    (na1 : starEach [e] X.env = (false, eval e X.env) :: starEach [] X.env := by rfl) (na : starEach [.Call (.Name "range" p2) [e] [] p3] X.env = (false, eval (.Call (.Name "range" p2) [e] [] p3) X.env) :: starEach [] X.env := by rfl) :
    DL X ρ (.Call (.Name "list" p) [.Call (.Name "range" p2) [e] [] p3] [] pos) (rangeD 0 n.toNat) ρ1 := fun F Z B H σ Q k q =>
  ⟨_, pe_listRg hc hgl ml (prg_1 hgr mr pe_s na1) na, h F Z B H σ _ k fun v B1 H1 k1 x1 w1 => by
    have dz : Dp X.K B1 v (.int n) := w1
    cases dz
    exact ⟨n, rfl, RgOk.of_le (by omega) (by omega) (by omega) (by omega), fun l hl => q l _ B1 _ (k1.loose hl _) x1 (k1.laid hl _) upd_same (rg_rangeD n)⟩⟩
/-- (..) * n -/
theorem de_repT {k : Int} (h0 : 2 ≤ k) (h1 : k ≤ 1000) (hne : xs ≠ []) (hz : xs.length ≤ 1000) (ha : DE X ρ a (.d (.tuple xs)) ρ1) (hb : DE X ρ1 b (.d (.int k)) ρ2) : DE X ρ (.BinOp a .Mult b pos) (.d (.tuple (List.replicate k.toNat xs).flatten)) ρ2 := fun F Z B H σ Q kk q =>
  ⟨_, pe_op op_repN pe_s pe_s, DE.two ha hb kk fun v1 v2 B2 H2 k2 x w1 w2 => by
    obtain ⟨p, vs, e, s, sB, t⟩ := tup_at k2 w1
    have dz : Dp X.K B2 v2 (.int k) := w2
    cases dz
    have l1 := DpAll.length t
    refine ⟨p, k, vs, e, rfl, s, fun z => hne ?_, h0, h1, by rw [l1]; exact hz, k2.newT (DpAll.rep t k.toNat) fun v B3 H3 k3 x3 w3 => q v B3 H3 k3 (x.trans x3) w3⟩
    rw [z] at l1
    exact List.eq_nil_of_length_eq_zero l1.symm⟩
/-- a loop that leaves as soon as one is bad -/
theorem db_forAll (bs : List Bool) (d : PyData) (hl : bs.length = xs.length) (hp : PassesOwn (model X.prog X.w) X.A X.env X.xe) (hc : X.calm = true) (hi : DI X ρ tg iter xs ρ1)
    (turn : ∀ (i : Nat) (x : PyData) (b : Bool), xs[i]? = some x → bs[i]? = some b → ∃ ρt js, DG X ρ1 tg x js ρt ∧ (b = true → DB X ρt body (.nx ρ1)) ∧ (b = false → DB X ρt body (.rt d ρ1)))
    (go : bs.all id = true → DB X ρ1 rest o) (bad : bs.all id = false → o = .rt d ρ1)
    (hs : ∀ x, foldedSetIterable iter X.env x = pure x := by intro _; rfl) : DB X ρ (.For tg iter body [] pos :: rest) o := by
  cases hb : bs.all id with
  | true =>
    refine db_cons (ds_for hp hc hi (fun _ => ρ1) (.refl _) (fun i x hx => ?_) rfl hs) (go hb)
    have hi' : i < bs.length := by rw [hl]; exact (List.getElem?_eq_some_iff.mp hx).1
    obtain ⟨ρt, js, h1, h2, _⟩ := turn i x _ hx (List.getElem?_eq_getElem hi')
    exact ⟨ρt, js, h1, h2 ((List.all_eq_true.mp hb) _ (List.getElem_mem hi'))⟩
  | false =>
    obtain rfl := bad hb
    have ⟨m, hm, e, lo⟩ : ∃ m, ∃ hm : m < bs.length, bs[m] = false ∧ ∀ i (h : i < bs.length), i < m → bs[i] = true := by
      clear hl turn go bad
      induction bs with
      | nil => simp at hb
      | cons b bs ih =>
        cases b with
        | false => exact ⟨0, by simp, rfl, fun i _ z => absurd z (Nat.not_lt_zero i)⟩
        | true =>
          obtain ⟨m, hm, e, lo⟩ := ih (by simpa using hb)
          refine ⟨m + 1, by simpa using hm, by simpa using e, fun i h z => ?_⟩
          cases i with
          | zero => rfl
          | succ i => simpa using lo i (by simpa using h) (by omega)
    refine db_rt (for_leaves hp hc hi m (by rw [← hl]; exact hm) (fun _ => ρ1) (.refl _) (fun i x him hx => ?_) (fun x hx => ?_) hs)
    · have hi' : i < bs.length := by rw [hl]; exact (List.getElem?_eq_some_iff.mp hx).1
      obtain ⟨ρt, js, h1, h2, _⟩ := turn i x _ hx (List.getElem?_eq_getElem hi')
      exact ⟨ρt, js, _, h1, .inl (h2 (lo i hi' him)), .refl _⟩
    · obtain ⟨ρt, js, h1, _, h3⟩ := turn m x _ hx (List.getElem?_eq_getElem hm)
      exact ⟨ρt, js, h1, .inl ⟨_, _, h3 e, rfl⟩⟩
theorem db_forMap {α : Type} (l : List α) (G' : α → PyData) (f : α → Bool) (d : PyData) (hp : PassesOwn (model X.prog X.w) X.A X.env X.xe) (hc : X.calm = true) (hi : DI X ρ tg iter (l.map G') ρ1)
    (turn : ∀ x ∈ l, ∃ ρt js, DG X ρ1 tg (G' x) js ρt ∧ (f x = true → DB X ρt body (.nx ρ1)) ∧ (f x = false → DB X ρt body (.rt d ρ1)))
    (go : l.all f = true → DB X ρ1 rest o) (bad : l.all f = false → o = .rt d ρ1)
    (hs : ∀ x, foldedSetIterable iter X.env x = pure x := by intro _; rfl) : DB X ρ (.For tg iter body [] pos :: rest) o := by
  have e : (l.map f).all id = l.all f := by rw [List.all_map]; rfl
  refine db_forAll (l.map f) d (by simp) hp hc hi (fun i x b hx hb => ?_) (by rw [e]; exact go) (by rw [e]; exact bad) hs
  rw [List.getElem?_map] at hx hb
  cases hli : l[i]? with
  | none => rw [hli] at hx; cases hx
  | some y =>
    rw [hli] at hx hb
    cases hx
    cases hb
    exact turn y (List.mem_of_getElem? hli)
/-- if c: return d, as a turn -/
theorem turn_if {v : Bool} {d : PyData} {ρt ρa ρr : Env'} (h : DT X ρt c (!v) ρa) (hr : DB X ρa as (.rt d ρr)) (w : Wk ρa ρ1) (w' : Wk ρr ρ1) : (v = true → DB X ρt [.If c as [] pos] (.nx ρ1)) ∧ (v = false → DB X ρt [.If c as [] pos] (.rt d ρ1)) := by
  constructor
  · rintro rfl
    exact db_weak (db_ifF h db_nil) w
  · rintro rfl
    exact db_ifT h (db_rtW hr w')
/-- a turn whose last statement is a loop -/
theorem turn_all {v : Bool} {d : PyData} {ρt ρa : Env'} {sts : List Stmt} (h : ∀ o : O, (v = true → o = .nx ρa) → (v = false → o = .rt d ρa) → DB X ρt sts o) (w : Wk ρa ρ1) : (v = true → DB X ρt sts (.nx ρ1)) ∧ (v = false → DB X ρt sts (.rt d ρ1)) :=
  ⟨fun e => db_weak (h _ (fun _ => rfl) (fun z => by rw [e] at z; cases z)) w, fun e => db_rtW (h _ (fun z => by rw [e] at z; cases z) (fun _ => rfl)) w⟩
theorem bools_of {K : PySem.W.Frag} {B : Hp} : ∀ {bs : List Bool} {us : List V}, DpAll K B us (bs.map PyData.bool) → us = bs.map V.bl
  | [], _, h => by cases h; rfl
  | b :: bs, _, h => by
    cases h with
    | cons h t =>
      cases h
      rw [bools_of t]; rfl
theorem de_any {bs : List Bool} (hc : X.calm = true) (h : DLd X ρ e (bs.map .bool) ρ1) (hm : X.mg "any" = none) (hg : Gl X "any" := by rfl) (he : starEach [e] X.env = (false, eval e X.env) :: starEach [] X.env := by rfl) (hpl : (backTo pos (starEach [] X.env)).any (·.1) = false := by rfl) :
    DE X ρ (.Call (.Name "any" p) [e] [] pos) (.d (.bool (bs.any id))) ρ1 := fun F Z B H σ Q k q =>
  ⟨_, pe_callB (cr_any hc) hg hm PyProof.Rows.boot_any (pa_cons pe_s pa_nil he) (by decide) (by decide) he hpl, h F Z B H σ _ k fun a us B1 H1 k1 x1 hs t => by
    have e := bools_of t
    subst e
    exact ⟨a, bs, rfl, hs, q _ B1 H1 k1 x1 (.bl _)⟩⟩
end
/-! ### webs, shortly -/
section
variable {X : Cx} {ρ ρ1 ρ2 : Env'} {tg a b e : Expr} {pos p p0 p1 p2 p3 : Pos} {W : Wb} {k0 k1 k2}
/-- web[0] -/
theorem de_w0 (h : DE X ρ e (.d (wbD W)) ρ1) : DE X ρ (.Subscript e (.Constant (.int 0) k0 p0) pos) (.d (.int W.n)) ρ1 :=
  de_ixT (xs := [.int W.n, .tuple (W.col.map .int), .tuple ((W.arr.map pK).map NestedKey.data)]) (i := 0) rfl h de_int
/-- web[1] -/
theorem de_w1 (h : DE X ρ e (.d (wbD W)) ρ1) : DE X ρ (.Subscript e (.Constant (.int 1) k0 p0) pos) (.d (.tuple (W.col.map .int))) ρ1 :=
  de_ixT (xs := [.int W.n, .tuple (W.col.map .int), .tuple ((W.arr.map pK).map NestedKey.data)]) (i := 1) rfl h de_int
/-- web[2] -/
theorem de_w2 (h : DE X ρ e (.d (wbD W)) ρ1) : DE X ρ (.Subscript e (.Constant (.int 2) k0 p0) pos) (.d (.tuple ((W.arr.map pK).map NestedKey.data))) ρ1 :=
  de_ixT (xs := [.int W.n, .tuple (W.col.map .int), .tuple ((W.arr.map pK).map NestedKey.data)]) (i := 2) rfl h de_int
/-- web[1][x] -/
theorem de_wc {x : Int} (hW : W.Ok) (hx : x ∈ names W.n) (h : DE X ρ e (.d (wbD W)) ρ1) (hb : DE X ρ1 b (.d (.int x)) ρ2) (hs : PlainIx b := by intro _ _; rfl) :
    DE X ρ (.Subscript (.Subscript e (.Constant (.int 1) k0 p0) p1) b pos) (.d (.int (colAt W x))) ρ2 := de_ixT (at_col hW hx) (de_w1 h) hb hs
/-- range(n), as names -/
theorem di_names {n : Nat} (hm : X.mg "range" = none) (hn : n ≤ 100000) (h : DE X ρ e (.d (.int n)) ρ1) (hg : Gl X "range" := by rfl) (hs : starEach [e] X.env = [(false, eval e X.env)] := by rfl) (hs' : starEach [e] X.env = (false, eval e X.env) :: starEach [] X.env := by rfl) :
    DI X ρ tg (.Call (.Name "range" p) [e] [] pos) ((names n).map .int) ρ1 := by
  rw [← names_D]
  exact di_range hm (by omega) (da_cons h da_nil hs') hg hs
/-- [elt for tg in iter], by what stands behind the data -/
theorem dl_mapA {α : Type} {iter elt : Expr} {scope : Scope} (l : List α) (G' g : α → PyData) (own : List (Str × Nat)) (hc : X.calm = true) (hN : X.N.Nodup) (ok : BlkOk X.N X.env.scope scope own) (hi : DI X ρ tg iter (l.map G') ρ1) (hv : ∀ j ∈ own.map (·.2), gS ρ1 j = .un)
    (turn : ∀ x ∈ l, ∃ ρt js ρe, (Blk X scope fun Y => DG Y ρ1 tg (G' x) js ρt) ∧ (Blk X scope fun Y => DE Y ρt elt (.d (g x)) ρe) ∧ (∀ j ∈ js, j ∈ own.map (·.2)) ∧ Wk ρe ρ1) (hz : l.length ≤ sizeLine)
    (hs : ∀ x, foldedSetIterable iter X.env x = pure x := by intro _; rfl) : DL X ρ (.ListComp elt [⟨tg, iter, [], 0⟩] scope pos) (l.map g) ρ1 := by
  have e : (List.range (l.map G').length).filterMap (fun i => l[i]?.bind fun x => some (g x)) = l.map g := by rw [List.length_map]; exact fm_map g l
  rw [← e]
  refine dl_lc hc hN ok hi (fun _ => ρ1) _ (fun i x hx => ?_) (wipeE_wk hv) (fun _ => wipeE_wk hv) (mrg_un rfl hv) (by rw [List.length_map]; exact hz) hs
  rw [List.getElem?_map] at hx
  cases hli : l[i]? with
  | none => rw [hli] at hx; cases hx
  | some y =>
    rw [hli] at hx
    cases hx
    obtain ⟨ρt, js, ρe, h1, h2, h3, h4⟩ := turn y (List.mem_of_getElem? hli)
    exact LcT.map h3 h1 h2 h4
/-- [elt for tg in iter if c], by what stands behind the data -/
theorem dl_filtA {α : Type} {iter elt c : Expr} {scope : Scope} (l : List α) (G' g : α → PyData) (f : α → Bool) (own : List (Str × Nat)) (hc : X.calm = true) (hN : X.N.Nodup) (ok : BlkOk X.N X.env.scope scope own) (hi : DI X ρ tg iter (l.map G') ρ1) (hv : ∀ j ∈ own.map (·.2), gS ρ1 j = .un)
    (turn : ∀ x ∈ l, ∃ ρt js ρa ρe, (Blk X scope fun Y => DG Y ρ1 tg (G' x) js ρt) ∧ (Blk X scope fun Y => DT Y ρt c (f x) ρa) ∧ (f x = true → Blk X scope fun Y => DE Y ρa elt (.d (g x)) ρe) ∧ (∀ j ∈ js, j ∈ own.map (·.2)) ∧ Wk ρa ρ1 ∧ Wk ρe ρ1) (hz : l.length ≤ sizeLine)
    (hs : ∀ x, foldedSetIterable iter X.env x = pure x := by intro _; rfl) : DL X ρ (.ListComp elt [⟨tg, iter, [c], 0⟩] scope pos) ((l.filter f).map g) ρ1 := by
  have e : (List.range (l.map G').length).filterMap (fun i => l[i]?.bind fun x => if f x then some (g x) else none) = (l.filter f).map g := by rw [List.length_map]; exact fm_filt f g l
  rw [← e]
  refine dl_lc hc hN ok hi (fun _ => ρ1) _ (fun i x hx => ?_) (wipeE_wk hv) (fun _ => wipeE_wk hv) (mrg_un rfl hv) (by rw [List.length_map]; exact hz) hs
  rw [List.getElem?_map] at hx
  cases hli : l[i]? with
  | none => rw [hli] at hx; cases hx
  | some y =>
    rw [hli] at hx
    cases hx
    obtain ⟨ρt, js, ρa, ρe, h1, h2, h3, h4, h5, h6⟩ := turn y (List.mem_of_getElem? hli)
    exact LcT.iff h4 h1 h2 h3 (fun _ => h6) (fun _ => h5)
/-- x = [elt for tg in iter], by what stands behind the data -/
theorem ds_setMapA {α : Type} {i : Nat} {y : Str} {py spos : Pos} {s0 : Sl} {iter elt : Expr} {scope : Scope} (l : List α) (G' g : α → PyData) (own : List (Str × Nat)) (hc : X.calm = true) (hN : X.N.Nodup) (ok : BlkOk X.N X.env.scope scope own) (hi : DI X ρ tg iter (l.map G') ρ1) (hv : ∀ j ∈ own.map (·.2), gS ρ1 j = .un)
    (turn : ∀ x ∈ l, ∃ ρt js ρe, (Blk X scope fun Y => DG Y ρ1 tg (G' x) js ρt) ∧ (Blk X scope fun Y => DE Y ρt elt (.d (g x)) ρe) ∧ (∀ j ∈ js, j ∈ own.map (·.2)) ∧ Wk ρe ρ1) (hz : l.length ≤ sizeLine)
    (hsw : swapsWith (.ListComp elt [⟨tg, iter, [], 0⟩] scope pos) (some (.Name y py)) spos.line X.env = pure true := by rfl)
    (hr : ρ1[i]? = some s0 := by rfl) (hy : X.N[i]? = some y := by rfl) (hyl : X.env.scope.names.lookup y = some .local := by rfl) (hs : ∀ x, foldedSetIterable iter X.env x = pure x := by intro _; rfl) :
    DS X ρ (.Assign [.Name y py] (.ListComp elt [⟨tg, iter, [], 0⟩] scope pos) spos) (.nx (ρ1.set i (.o (.lst (l.map g))))) := by
  have e : (List.range (l.map G').length).filterMap (fun i => l[i]?.bind fun x => some (g x)) = l.map g := by rw [List.length_map]; exact fm_map g l
  rw [← e]
  refine ds_setLc hc hN ok hsw hi (fun _ => ρ1) _ (fun i x hx => ?_) (wipeE_wk hv) (fun _ => wipeE_wk hv) (mrg_un rfl hv) (by rw [List.length_map]; exact hz) hr hy hyl hs
  rw [List.getElem?_map] at hx
  cases hli : l[i]? with
  | none => rw [hli] at hx; cases hx
  | some y =>
    rw [hli] at hx
    cases hx
    obtain ⟨ρt, js, ρe, h1, h2, h3, h4⟩ := turn y (List.mem_of_getElem? hli)
    exact LcT.map h3 h1 h2 h4
/-- x = [elt for tg in iter if c], by what stands behind the data -/
theorem ds_setFiltA {α : Type} {i : Nat} {y : Str} {py spos : Pos} {s0 : Sl} {iter elt c : Expr} {scope : Scope} (l : List α) (G' g : α → PyData) (f : α → Bool) (own : List (Str × Nat)) (hc : X.calm = true) (hN : X.N.Nodup) (ok : BlkOk X.N X.env.scope scope own) (hi : DI X ρ tg iter (l.map G') ρ1) (hv : ∀ j ∈ own.map (·.2), gS ρ1 j = .un)
    (turn : ∀ x ∈ l, ∃ ρt js ρa ρe, (Blk X scope fun Y => DG Y ρ1 tg (G' x) js ρt) ∧ (Blk X scope fun Y => DT Y ρt c (f x) ρa) ∧ (f x = true → Blk X scope fun Y => DE Y ρa elt (.d (g x)) ρe) ∧ (∀ j ∈ js, j ∈ own.map (·.2)) ∧ Wk ρa ρ1 ∧ Wk ρe ρ1) (hz : l.length ≤ sizeLine)
    (hsw : swapsWith (.ListComp elt [⟨tg, iter, [c], 0⟩] scope pos) (some (.Name y py)) spos.line X.env = pure true := by rfl)
    (hr : ρ1[i]? = some s0 := by rfl) (hy : X.N[i]? = some y := by rfl) (hyl : X.env.scope.names.lookup y = some .local := by rfl) (hs : ∀ x, foldedSetIterable iter X.env x = pure x := by intro _; rfl) :
    DS X ρ (.Assign [.Name y py] (.ListComp elt [⟨tg, iter, [c], 0⟩] scope pos) spos) (.nx (ρ1.set i (.o (.lst ((l.filter f).map g))))) := by
  have e : (List.range (l.map G').length).filterMap (fun i => l[i]?.bind fun x => if f x then some (g x) else none) = (l.filter f).map g := by rw [List.length_map]; exact fm_filt f g l
  rw [← e]
  refine ds_setLc hc hN ok hsw hi (fun _ => ρ1) _ (fun i x hx => ?_) (wipeE_wk hv) (fun _ => wipeE_wk hv) (mrg_un rfl hv) (by rw [List.length_map]; exact hz) hr hy hyl hs
  rw [List.getElem?_map] at hx
  cases hli : l[i]? with
  | none => rw [hli] at hx; cases hx
  | some y =>
    rw [hli] at hx
    cases hx
    obtain ⟨ρt, js, ρa, ρe, h1, h2, h3, h4, h5, h6⟩ := turn y (List.mem_of_getElem? hli)
    exact LcT.iff h4 h1 h2 h3 (fun _ => h6) (fun _ => h5)
end
end G

set_option Elab.async false
set_option linter.all false
set_option maxRecDepth 100000
set_option maxHeartbeats 4000000
/- ends that are some environment; and, or as values; drawn webs are nets -/
namespace G
open PySem L2 PySem.Spec PyProof.Rows
/-- statements that go on in some environment of a kind -/
def DBx (X : Cx) (ρ : Env') (sts : List Stmt) (I : Env' → Prop) : Prop := ∃ ρ', I ρ' ∧ DB X ρ sts (.nx ρ')
section
variable {X : Cx} {ρ ρ1 ρ2 ρ' : Env'} {tg iter a b c e : Expr} {pos p : Pos} {st : Stmt} {rest sts body as : List Stmt} {o : O} {I : Env' → Prop} {xs : List PyData}
theorem bx_cons (h : DS X ρ st (.nx ρ1)) (t : DBx X ρ1 rest I) : DBx X ρ (st :: rest) I := by
  obtain ⟨ρ', i, t⟩ := t
  exact ⟨ρ', i, db_cons h t⟩
theorem bx_at (ρ2 : Env') (e : ρ = ρ2) (h : DBx X ρ2 sts I) : DBx X ρ sts I := e ▸ h
theorem bx_still {i : Nat} (t : DBx X (ρ.set i (.d (.list xs))) sts I) (hs : ρ[i]? = some (.o (.lst xs)) := by rfl) : DBx X ρ sts I := by
  obtain ⟨ρ', i', t⟩ := t
  exact ⟨ρ', i', db_still t hs⟩
theorem bx_nil (ρ2 : Env') (i : I ρ2) (w : Wk ρ ρ2) : DBx X ρ [] I := ⟨ρ2, i, db_end w⟩
/-- all turns of a loop keep a kind of environments -/
theorem db_forE (I : Env' → Prop) (hp : PassesOwn (model X.prog X.w) X.A X.env X.xe) (hc : X.calm = true) (hi : DI X ρ tg iter xs ρ1) (h0 : I ρ1)
    (turn : ∀ (i : Nat) (x : PyData) (ρa : Env'), xs[i]? = some x → I ρa → ∃ ρt js, DG X ρa tg x js ρt ∧ DBx X ρt body I)
    (go : ∀ ρ2, I ρ2 → DB X ρ2 rest o) (hs : ∀ x, foldedSetIterable iter X.env x = pure x := by intro _; rfl) : DB X ρ (.For tg iter body [] pos :: rest) o := by
  have step : ∀ (i : Nat) (ρa : {ρa : Env' // I ρa}), ∃ ρb : {ρb : Env' // I ρb}, ∀ x, xs[i]? = some x → ∃ ρt js, DG X ρa.1 tg x js ρt ∧ DB X ρt body (.nx ρb.1) := fun i ρa => by
    cases hx : xs[i]? with
    | none => exact ⟨ρa, fun x hx' => by cases hx'⟩
    | some x =>
      obtain ⟨ρt, js, h1, ρ', h2, h3⟩ := turn i x ρa.1 hx ρa.2
      exact ⟨⟨ρ', h2⟩, fun x' hx' => by cases hx'; exact ⟨ρt, js, h1, h3⟩⟩
  let ρs : Nat → {ρa : Env' // I ρa} := fun n => Nat.rec ⟨ρ1, h0⟩ (fun i ρa => Classical.choose (step i ρa)) n
  refine db_cons (ds_for hp hc hi (fun i => (ρs i).1) (.refl _) (fun i x hx => ?_) rfl hs) (go _ (ρs xs.length).2)
  exact Classical.choose_spec (step i (ρs i)) x hx
theorem bx_for (J : Env' → Prop) (hp : PassesOwn (model X.prog X.w) X.A X.env X.xe) (hc : X.calm = true) (hi : DI X ρ tg iter xs ρ1) (h0 : J ρ1)
    (turn : ∀ (i : Nat) (x : PyData) (ρa : Env'), xs[i]? = some x → J ρa → ∃ ρt js, DG X ρa tg x js ρt ∧ DBx X ρt body J)
    (go : ∀ ρ2, J ρ2 → DBx X ρ2 rest I) (hs : ∀ x, foldedSetIterable iter X.env x = pure x := by intro _; rfl) : DBx X ρ (.For tg iter body [] pos :: rest) I := by
  have step : ∀ (i : Nat) (ρa : {ρa : Env' // J ρa}), ∃ ρb : {ρb : Env' // J ρb}, ∀ x, xs[i]? = some x → ∃ ρt js, DG X ρa.1 tg x js ρt ∧ DB X ρt body (.nx ρb.1) := fun i ρa => by
    cases hx : xs[i]? with
    | none => exact ⟨ρa, fun x hx' => by cases hx'⟩
    | some x =>
      obtain ⟨ρt, js, h1, ρ', h2, h3⟩ := turn i x ρa.1 hx ρa.2
      exact ⟨⟨ρ', h2⟩, fun x' hx' => by cases hx'; exact ⟨ρt, js, h1, h3⟩⟩
  let ρs : Nat → {ρa : Env' // J ρa} := fun n => Nat.rec ⟨ρ1, h0⟩ (fun i ρa => Classical.choose (step i ρa)) n
  refine bx_cons (ds_for hp hc hi (fun i => (ρs i).1) (.refl _) (fun i x hx => ?_) rfl hs) (go _ (ρs xs.length).2)
  exact Classical.choose_spec (step i (ρs i)) x hx
theorem bx_ifF (h : DT X ρ c false ρ1) (t : DBx X ρ1 rest I) : DBx X ρ (.If c as [] pos :: rest) I := bx_cons (ds_ifF h db_nil) t
/-- a and b, as values -/
theorem de_and {x y : Bool} {es : List Expr} (h : DE X ρ a (.d (.bool x)) ρ1) (h1 : x = true → DE X ρ1 (.BoolOp .And (b :: es) pos) (.d (.bool y)) ρ2) (h2 : x = false → ρ2 = ρ1) : DE X ρ (.BoolOp .And (a :: b :: es) pos) (.d (.bool (x && y))) ρ2 := fun F Z B H σ Q k q =>
  ⟨_, pe_and pe_s pe_s, h F Z B H σ _ k fun v B1 H1 k1 x1 w1 => by
    have w : Dp X.K B1 v (.bool x) := w1
    cases w
    refine ⟨x, rfl, ?_⟩
    cases x with
    | true =>
      rw [if_pos rfl]
      exact h1 rfl F Z B1 H1 σ _ k1 fun v B2 H2 k2 x2 w2 => q v B2 H2 k2 (x1.trans x2) w2
    | false =>
      rw [if_neg (by decide)]
      obtain rfl := h2 rfl
      exact q _ B1 H1 k1 x1 (.bl _)⟩
theorem de_or {x y : Bool} {es : List Expr} (h : DE X ρ a (.d (.bool x)) ρ1) (h1 : x = false → DE X ρ1 (.BoolOp .Or (b :: es) pos) (.d (.bool y)) ρ2) (h2 : x = true → ρ2 = ρ1) : DE X ρ (.BoolOp .Or (a :: b :: es) pos) (.d (.bool (x || y))) ρ2 := fun F Z B H σ Q k q =>
  ⟨_, pe_or pe_s pe_s, h F Z B H σ _ k fun v B1 H1 k1 x1 w1 => by
    have w : Dp X.K B1 v (.bool x) := w1
    cases w
    refine ⟨x, rfl, ?_⟩
    cases x with
    | false =>
      rw [if_neg (by decide)]
      exact h1 rfl F Z B1 H1 σ _ k1 fun v B2 H2 k2 x2 w2 => q v B2 H2 k2 (x1.trans x2) w2
    | true =>
      rw [if_pos rfl]
      obtain rfl := h2 rfl
      exact q _ B1 H1 k1 x1 (.bl _)⟩
theorem de_one {op} {r : R} (h : DE X ρ a r ρ1) : DE X ρ (.BoolOp op [a] pos) r ρ1 := fun F Z B H σ Q k q => ⟨_, pe_one pe_s, h F Z B H σ Q k q⟩
theorem de_not {x : Bool} (h : DE X ρ a (.d (.bool x)) ρ1) : DE X ρ (.UnaryOp .Not a pos) (.d (.bool (!x))) ρ1 := fun F Z B H σ Q k q =>
  ⟨_, pe_not pe_s, h F Z B H σ _ k fun v B1 H1 k1 x1 w1 => by
    have w : Dp X.K B1 v (.bool x) := w1
    cases w
    exact ⟨x, rfl, q _ B1 H1 k1 x1 (.bl _)⟩⟩
theorem od_neB {K : PySem.W.Frag} {i j : Bool} : OpD K rNe ρ (.d (.bool i)) (.d (.bool j)) (.d (.bool (!decide (i = j)))) := fun F Z B H σ Q v1 v2 k w1 w2 q => by
  cases w1; cases w2
  have e : decide (V.bl i = V.bl j) = decide (i = j) := by simp
  exact ⟨rfl, by rw [e]; exact q _ B H k (Sub.refl B) (.bl _)⟩
theorem od_eqB {K : PySem.W.Frag} {i j : Bool} : OpD K rEq ρ (.d (.bool i)) (.d (.bool j)) (.d (.bool (decide (i = j)))) := fun F Z B H σ Q v1 v2 k w1 w2 q => by
  cases w1; cases w2
  have e : decide (V.bl i = V.bl j) = decide (i = j) := by simp
  exact ⟨rfl, by rw [e]; exact q _ B H k (Sub.refl B) (.bl _)⟩
theorem dt_neB {i j : Bool} (ha : DE X ρ a (.d (.bool i)) ρ1) (hb : DE X ρ1 b (.d (.bool j)) ρ2) : DT X ρ (.Compare a [.NotEq] [b] pos) (!decide (i = j)) ρ2 := dt_cmp op_ne od_neB (nomark b) ha hb
theorem de_repB {x : Bool} (hgd : X.A.guards = some []) (hu : X.A.units + 100 < cLine) (hm : X.mg "repr" = none) (h : DE X ρ e (.d (.bool x)) ρ1) (hg : Gl X "repr" := by rfl) (he : starEach [e] X.env = (false, eval e X.env) :: starEach [] X.env := by rfl) (hpl : (backTo pos (starEach [] X.env)).any (·.1) = false := by rfl) :
    DE X ρ (.Call (.Name "repr" p) [e] [] pos) (.d (.str (PyData.bool x).shown)) ρ1 := by
  refine de_repr hgd hu (by simp [PyData.showable]) (by simp [PyData.depth]) ?_ hm h hg he hpl
  have all : ∀ b : Bool, (PyData.bool b).shown.length ≤ 5 := by decide +kernel
  exact Nat.le_trans (all x) (by decide)
end
end G

set_option Elab.async false
set_option linter.all false
set_option maxRecDepth 100000
set_option maxHeartbeats 4000000
/- more rules: for x in dict(..), t.count(i), max(list), min(a, b), is not -/
namespace G
open PySem L2 PySem.Spec PyProof.Rows
/-! ### for x in dict(..), the dict being new -/
def Itks (ks : List Key) : It := ⟨fun i _ => i < ks.length, fun i H x H' => H' = H ∧ ∃ k, ks[i]? = some k ∧ x = kV k, fun i _ => i = ks.length⟩
theorem turn_keysF {P : Program} {w : World} {K : PySem.W.Frag} {tg : Expr} {d it : Addr} {ep : Nat} {kvs : List (Key × Value)} (hne : d ≠ it) : Turn P w K tg (Itks (kvs.map (·.1))) [it, d] it (fun i h => h.IsKeyIter it d i kvs.length ep ∧ h.DictAt (mixKind P w) d kvs ep) where
  mem := by simp
  obj := fun i h st b hb => by
    rcases List.mem_cons.mp hb with e | e
    · subst e
      obtain ⟨oi, e, c, dd⟩ := st.1
      exact ⟨oi, e, fun v z => by rw [dd] at z; cases z⟩
    · rw [List.mem_singleton.mp e]
      obtain ⟨o, es, e, _, dd, _⟩ := st.2
      exact ⟨o, e, fun v z => by rw [dd] at z; cases z⟩
  keep := fun i h h' st k => by
    obtain ⟨⟨o, ho, r⟩, o2, es, ho2, r2⟩ := st
    exact ⟨⟨o, k it (by simp) o ho, r⟩, o2, es, k d (by simp) o2 ho2, r2⟩
  item := by
    intro X hP hw hK hc i pins s σ H E I hf st hg
    subst hP hw hK
    obtain ⟨f0, f1, f2, f3, f4, f5⟩ := hf it (by simp)
    have hi : i < kvs.length := by
      have z : i < (kvs.map (·.1)).length := hg
      rwa [List.length_map] at z
    obtain ⟨⟨k, v⟩, hkv⟩ : ∃ p, kvs[i]? = some p := ⟨kvs[i], List.getElem?_eq_getElem hi⟩
    refine wpAny_pyNext_dict_item st.1 st.2 hkv fun key h' hkey st' sb => ?_
    have I1 : Inv X pins σ H { s with heap := h' } := I.turned (t' := s.toks) (fun b ob hb e => (sb.2 b hb).trans e) f0 f1 f3 f4 f5
    obtain ⟨oi, e, c, dd⟩ := id st'
    refine ⟨key, rfl, go_of (s := { s with heap := h' }) e c dd (by decide) ⟨kV k, H, I1, relV_key (show keyIs k key = true from hkey), ⟨rfl, k, by rw [List.getElem?_map, hkv]; rfl, rfl⟩, ⟨st', ?_⟩, fun b hb => (hf b hb).1⟩⟩
    obtain ⟨o, es, ho, r⟩ := st.2
    exact ⟨o, es, (sb.2 d hne).trans ho, r⟩
  done := by
    intro X hP hw hK hc i pins s σ H E I hf st hg
    subst hP hw hK
    obtain ⟨f0, f1, f2, f3, f4, f5⟩ := hf it (by simp)
    have hi : i = kvs.length := by
      have z : i = (kvs.map (·.1)).length := hg
      rwa [List.length_map] at z
    obtain ⟨o, es, ho, hx, hdt, hk, hp, hn⟩ := id st.2
    have hsz : es.size = kvs.length := by
      have := hp.length
      rwa [Array.length_toList] at this
    exact next_key_end (I.ok.hd hc) st.1 ho hdt hsz (Nat.le_of_eq hi.symm) fun h' eb => ⟨rfl, I.turned (t' := s.toks) (fun b ob hb e => eb b ob hb e) f0 f1 f3 f4 f5⟩
  self := fun A i s Q E st h => wpAny_pyIter_keyiter st.1 h
theorem kv_keys : ∀ {r : List (Key × V)} {s : List (Key × Value)}, KV r s → s.map (·.1) = r.map (·.1)
  | [], _, h => by cases h; rfl
  | p :: r, _, h => by
    cases h with
    | cons h t => rw [List.map_cons, List.map_cons, kv_keys t, h.1]
def iDictF (K : PySem.W.Frag) (ta : TA) : TI := fun σ H R => ta σ H fun vs H1 => ∃ (a : Addr) (ps : List Addr) (kvs : List (Key × V)), vs = [.ref a] ∧ SqL K H1 a (ps.map V.ref) ∧ Paired (fun p kv => SqT K H1 p [kV kv.1, kv.2]) ps kvs ∧ R (Itks ((mergeK [] kvs).map (·.1))) H1
section
variable {X : Cx} {tg e : Expr} {ta : TA} {p pos : Pos}
theorem pi_dictF (hc : X.calm = true) (hg : Gl X "dict") (hm : X.mg "dict" = none) (ha : PA X [e] ta) (hs : starEach [e] X.env = [(false, eval e X.env)] := by rfl) : PI X tg (.Call (.Name "dict" p) [e] [] pos) (iDictF X.K ta) := by
  refine ⟨fun pins s σ H R I h => ?_⟩
  refine Call_ (ld_blt I hg hm PyProof.Rows.boot_dict (PyProof.Rows.callWith_type1 (thn (ha.run pos pins s σ H _ I h) fun us s1 ⟨vs, H1, I1, r1, q1⟩ => ?_) hs rfl))
  obtain ⟨a, ps, kvs, ex, hq, hp, q⟩ := q1
  subst ex
  obtain ⟨u, eu, rx⟩ := vals1 r1
  subst eu
  cases rx
  obtain ⟨its, rv, pl, hz⟩ := I1.list hq
  have ei := refs_at rv
  subst ei
  rw [List.length_map] at hz
  obtain ⟨prs, rel, hl, hpr⟩ := pairs_of I1 hp
  obtain ⟨o, n, ho, hcl, hd, hdat⟩ := pl
  refine call_dict_pairs (prs := prs) (I1.ok.hd hc) ho hcl hd hdat (by simp [hl]) (by rw [hl]; exact hz) (fun j q' e => ?_) fun h' tk hd' k => ?_
  · obtain ⟨b, u, e1, e2, e3⟩ := hpr j q' e
    exact ⟨b, u, by simp [e1], e2, e3⟩
  · have hm : (s1.heap.objs.size == sysModules) = false := beq_eq_false_iff_ne.mpr (Nat.ne_of_gt I1.big)
    have ek : (merged [] prs).map (·.1) = (mergeK [] kvs).map (·.1) := kv_keys (KV.merge rel .nil)
    obtain ⟨ep, dat⟩ := hd'.dictAt
    obtain ⟨od, es, hod, hxd, hdd, hk, hpp, hnn⟩ := id dat
    have hsz : es.size = (merged [] prs).length := by
      have := hpp.length
      rwa [Array.length_toList] at this
    have lt := dat.lt_size
    refine iter_keys (s := { s1 with heap := h', toks := tk }) hm hod hxd hdd ?_
    refine ⟨h'.objs.size, [h'.objs.size, s1.heap.objs.size], _, Itks ((mergeK [] kvs).map (·.1)), H1, rfl, (I1.kept (t' := tk) k).kept (t' := tk) fun b ob e => Heap.get?_push_of_some _ e, ek ▸ turn_keysF (ep := ep) (Nat.ne_of_lt lt), ⟨⟨_, Heap.get?_push_size _ rfl, rfl, by rw [hsz]; rfl⟩, dat.push _⟩, fun b hb => ?_, q⟩
    have hle : s1.heap.objs.size ≤ b := by
      rcases List.mem_cons.mp hb with z | z
      · rw [z]; exact Nat.le_of_lt lt
      · rw [List.mem_singleton.mp z]; exact Nat.le_refl _
    exact I1.fpOk hle (I1.hok.fresh hle)
theorem walk_ks {ks : List Key} : Walk (Itks ks) ks.length (fun _ => True) (fun i H x H' => H' = H ∧ ∃ k, ks[i]? = some k ∧ x = kV k) :=
  ⟨fun i _ hi _ => hi, fun _ _ => rfl, fun _ _ _ _ _ _ y => y⟩
end
section
variable {X : Cx} {ρ ρ1 ρ2 : Env'} {tg a b e : Expr} {pos p p2 : Pos} {kvs : List (Int × PyData)}
/-- for x in dict(e), e a list of (number, value) -/
theorem di_dictI (hc : X.calm = true) (h : DLd X ρ e (kvs.map pairI) ρ1) (md : X.mg "dict" = none) (hg : Gl X "dict" := by rfl) (hs : starEach [e] X.env = [(false, eval e X.env)] := by rfl) (he : starEach [e] X.env = (false, eval e X.env) :: starEach [] X.env := by rfl) :
    DI X ρ tg (.Call (.Name "dict" p) [e] [] pos) (((kvs.map (·.1)).foldl addI []).map .int) ρ1 := fun F Z B H σ Q k q =>
  ⟨_, pi_dictF hc hg md (pa_cons pe_s pa_nil he) hs, h F Z B H σ _ k fun a us B1 H1 k1 x1 hs t => by
    obtain ⟨ps, rs, e1, e2, e3⟩ := pairsI t
    subst e1
    have mono : ∀ {l : List Addr} {m : List (Key × V)}, Paired (fun p (kv : Key × V) => SqT X.K B1 p [kV kv.1, kv.2]) l m → Paired (fun p (kv : Key × V) => SqT X.K H1 p [kV kv.1, kv.2]) l m := by
      intro l m r
      induction r with
      | nil => exact .nil
      | cons h _ ih => exact .cons (h.imp k1.exB.rd id) ih
    have ek : (mergeK [] (rs.map fun p => (Sum.inl p.1, p.2))).map (·.1) = ((rs.map (·.1)).foldl addI []).map Sum.inl := keys_merge (ks := []) rfl
    rw [e2] at ek
    refine ⟨a, ps, _, rfl, hs, mono e3, ?_⟩
    rw [ek]
    refine q _ _ _ _ B1 H1 k1 x1 (by simp) walk_ks (fun _ _ _ _ => trivial) ?_
    rintro F2 Z2 B2 H2 σ2 ρ2 i v H3 k2 y2 hi ⟨rfl, kk, hk, rfl⟩
    rw [List.getElem?_map] at hk
    cases hj : ((kvs.map (·.1)).foldl addI [])[i]? with
    | none => rw [hj] at hk; cases hk
    | some z =>
      rw [hj] at hk
      have hk' : (Sum.inl z : Key) = kk := Option.some.inj hk
      subst hk'
      exact ⟨B2, .int z, by rw [List.getElem?_map, hj]; rfl, k2, Sub.refl B2, .int z⟩⟩
end
end G

set_option Elab.async false
set_option linter.all false
set_option maxRecDepth 100000
set_option maxHeartbeats 4000000
/- methods of tuples: t.count(x), t.index(x); l.index(x) -/
namespace G
open PySem L2 PySem.Spec PyProof.Rows
def tBMN (r : V → List V → Hp → VK → Prop) (to : TE) (t : TA) : TE := fun σ H Q => to σ H fun x H1 => (∃ p o u, x = .ref p ∧ H1 p = some (.frz o u) ∧ o.dict = none ∧ o.cls = .type "tuple") ∧ t σ H1 fun xs H2 => r x xs H2 Q
section
variable {X : Cx} {o e : Expr} {es : List Expr} {to : TE} {t : TA} {name : Str} {apos cpos : Pos} {id : String} {r : V → List V → Hp → VK → Prop}
/-- t.name(..), t a tuple that keeps no dict -/
theorem pe_bmN (slot : Slot "tuple" name id) (hty : typeOf (.builtin id) = pure (.type "method_descriptor")) (hm : MtR X id r) (ho : PE X o to) (ha : PA X (e :: es) t)
    (hbase : attributeBase o name X.env (eval o X.env) = eval o X.env := by rfl)
    (hfew : ((backTo cpos (starEach (e :: es) X.env)).all (fun x => !x.1) && (backToKw cpos (keywordEach [] X.env)).all (fun x => x.1.isSome) && decide ((e :: es).length + ([] : List Keyword).length + (if ([] : List Keyword).isEmpty then 0 else 1) < 30)) = true := by rfl)
    (hline : (apos.endLine == cpos.line) = true := by rfl) (hs : starEach (e :: es) X.env = (false, eval e X.env) :: starEach es X.env := by rfl) (hplain : (backTo cpos (starEach es X.env)).any (·.1) = false := by rfl) :
    PE X (.Call (.Attribute o name apos) (e :: es) [] cpos) (tBMN r to t) := by
  refine ⟨fun pins s σ H Q I h => wpAny_Call_method_late hbase hfew hline rfl (thn (ho.run pins s σ H _ I h) fun v s1 ⟨x, H1, I1, r1, ⟨p, ob, u, ex, hp, hd, hc⟩, q1⟩ => ?_)⟩
  subst ex
  obtain rfl : v = .ref p := r1
  obtain ⟨at', _⟩ := I1.hok p _ hp
  refine ⟨"tuple", id, PySem.F.plainAttrs_tuple, slot, hty, ⟨ob, at', hc⟩, fun a e => by cases e; exact ⟨ob, at', hd⟩, ?_⟩
  have hA := ha.run cpos pins s1 σ H1 _ I1 q1
  rw [hs] at hA ⊢
  refine Calls.callWith_builtin (by show (false || (backTo cpos (starEach es X.env)).any (·.1)) = false; rw [hplain] <;> rfl) (Calls.evalArgs_plain ?_)
  exact thn hA fun us s2 ⟨vs, H2, I2, r2, q2⟩ => hm pins s2 σ H2 (.ref p) vs (.ref p) us Q I2 (show RelV (.ref p) (.ref p) from rfl) r2 q2
end
section
variable {X : Cx}
def rCntD (K : PySem.W.Frag) : V → List V → Hp → VK → Prop := fun x xs H Q => ∃ (a : Addr) (y : V) (d : PyData) (ds : List PyData), x = .ref a ∧ xs = [y] ∧ L2.Dp K H (.ref a) (.tuple ds) ∧ L2.Dp K H y d ∧ SeqAt.shaped (.tuple ds) = true ∧ SeqAt.shaped d = true ∧ Q (.int ((ds.countP fun z => PyData.eqv z d : Nat) : Int)) H
theorem mt_cntD (hu : X.A.units + 65 < cLine) : MtR X "tuple.count" (rCntD X.K) := by
  rintro pins s σ H x xs v us Q I rx rxs ⟨a, y, d, ds, rfl, rfl, hl, hy, sl, sd, q⟩
  cases rx
  obtain ⟨uy, rfl, ry⟩ := rxs.one
  obtain ⟨bs, r1⟩ := Dp.reads I d y uy hy ry
  have hxs : PyData.canLayAll0 ds = true := SeqAt.canLay_of_shaped sl
  have room : X.A.units + 1 + min (PyData.depthAll ds) d.depth < cLine := room_in_shaped sd hu
  cases hl with
  | tup hs ha =>
    obtain ⟨its, rv, ⟨⟨cls, dd, data, sls⟩, ho, hc, n, hdt⟩, hlen⟩ := I.tuple hs
    simp only at hc hdt
    subst hc hdt
    obtain ⟨as, h4⟩ := Dp.readsAll I ds _ its ha rv
    have em : its.map (SeqAt.readOf s.heap) = ds := SeqAt.readsAll_map ds its as hxs h4
    refine call_meets PySem.F.slot_tuple_count ⟨_, ho, rfl⟩ PySem.F.entry_tuple_count (PySem.F.args_tuple_count_2 _ _)
      (SeqAt.tuple_countAt a its.toArray n dd sls uy fun u => PyData.eqv (SeqAt.readOf s.heap u) d) ⟨ho, SeqAt.items_eqAt (vs := its.toArray) (show ReadsAll s.heap its.toArray.toList ds as from h4) r1 hxs (SeqAt.canLay_of_shaped sd) room, ?_⟩
    have ec : (its.toArray.toList.countP fun u => PyData.eqv (SeqAt.readOf s.heap u) d) = ds.countP fun z => PyData.eqv z d := by
      rw [← em, List.countP_map]; rfl
    rw [ec]
    exact ⟨.int _, H, I.tok _, ⟨_, rfl⟩, q⟩
def rIdxI (K : PySem.W.Frag) : V → List V → Hp → VK → Prop := fun x xs H Q => ∃ (a : Addr) (ns : List Int) (k : Int), x = V.ref a ∧ xs = [.int k] ∧ SqT K H a (ns.map V.int) ∧ k ∈ ns ∧ Q (.int (ns.idxOf k : Nat)) H
theorem mt_idxI : MtR X "tuple.index" (rIdxI X.K) := by
  rintro pins s σ H x xs v us Q I rx rxs ⟨a, ns, k, rfl, rfl, hl, hk, q⟩
  cases rx
  obtain ⟨u, rfl, ru⟩ := rxs.one
  obtain ⟨t, rfl⟩ := ru
  obtain ⟨its, rv, pt, hlen⟩ := I.tuple hl
  exact PySem.SeqAt.tuple_index_ints (vs := its) (show s.heap.IsTuple a its.toArray from pt) (ints_of_vals rv) hk ⟨.int _, H, I.tok _, ⟨_, rfl⟩, q⟩
end
section
variable {X : Cx} {ρ ρ1 ρ2 : Env'} {a e : Expr} {p apos : Pos} {ds : List PyData} {d : PyData}
/-- t.count(x) -/
theorem de_count (hu : X.A.units + 65 < cLine) (hx : SeqAt.shaped (.tuple ds) = true) (hy : SeqAt.shaped d = true) (h0 : DE X ρ a (.d (.tuple ds)) ρ1) (h : DE X ρ1 e (.d d) ρ2) (hbase : attributeBase a "count" X.env (eval a X.env) = eval a X.env := by rfl)
    (hfew : ((backTo p (starEach [e] X.env)).all (fun x => !x.1) && (backToKw p (keywordEach [] X.env)).all (fun x => x.1.isSome) && decide ([e].length + ([] : List Keyword).length + (if ([] : List Keyword).isEmpty then 0 else 1) < 30)) = true := by rfl)
    (hline : (apos.endLine == p.line) = true := by rfl) (he : starEach [e] X.env = (false, eval e X.env) :: starEach [] X.env := by rfl) (hpl : (backTo p (starEach [] X.env)).any (·.1) = false := by rfl) :
    DE X ρ (.Call (.Attribute a "count" apos) [e] [] p) (.d (.int ((ds.countP fun z => PyData.eqv z d : Nat) : Int))) ρ2 := fun F Z B H σ Q k q =>
  ⟨_, pe_bmN PySem.F.slot_tuple_count PySem.F.type_tuple_count (mt_cntD hu) pe_s (pa_cons pe_s pa_nil he) hbase hfew hline he hpl, h0 F Z B H σ _ k fun v B1 H1 k1 x1 w1 => by
    have w : Dp X.K B1 v (.tuple ds) := w1
    have w' := w
    cases w' with
    | @tup b _ _ _ n _ =>
    obtain ⟨o, u, e1, e2, e3⟩ := n.mono k1.exB
    refine ⟨⟨b, o, u, rfl, e1, e2, e3⟩, h F Z B1 H1 σ _ k1 fun y B2 H2 k2 x2 w2 => ?_⟩
    exact ⟨b, y, d, ds, rfl, rfl, (dp_mono (x2.trans k2.exB) w).l2 (nd_sh hx), (dp_mono k2.exB (show Dp X.K B2 y d from w2)).l2 (nd_sh hy), hx, hy, q _ B2 H2 k2 (x1.trans x2) (.int _)⟩⟩
/-- t.index(i), whole numbers -/
theorem de_indexT {ns : List Int} {z : Int} (hz : z ∈ ns) (h0 : DE X ρ a (.d (.tuple (ns.map .int))) ρ1) (h : DE X ρ1 e (.d (.int z)) ρ2) (hbase : attributeBase a "index" X.env (eval a X.env) = eval a X.env := by rfl)
    (hfew : ((backTo p (starEach [e] X.env)).all (fun x => !x.1) && (backToKw p (keywordEach [] X.env)).all (fun x => x.1.isSome) && decide ([e].length + ([] : List Keyword).length + (if ([] : List Keyword).isEmpty then 0 else 1) < 30)) = true := by rfl)
    (hline : (apos.endLine == p.line) = true := by rfl) (he : starEach [e] X.env = (false, eval e X.env) :: starEach [] X.env := by rfl) (hpl : (backTo p (starEach [] X.env)).any (·.1) = false := by rfl) :
    DE X ρ (.Call (.Attribute a "index" apos) [e] [] p) (.d (.int (ns.idxOf z : Nat))) ρ2 := fun F Z B H σ Q k q =>
  ⟨_, pe_bmN PySem.F.slot_tuple_index PySem.F.type_tuple_index mt_idxI pe_s (pa_cons pe_s pa_nil he) hbase hfew hline he hpl, h0 F Z B H σ _ k fun v B1 H1 k1 x1 w1 => by
    have w : Dp X.K B1 v (.tuple (ns.map .int)) := w1
    cases w with
    | @tup b us _ s n t =>
    obtain ⟨o, u, e1, e2, e3⟩ := n.mono k1.exB
    have eu := DpAll.ints t
    subst eu
    refine ⟨⟨b, o, u, rfl, e1, e2, e3⟩, h F Z B1 H1 σ _ k1 fun y B2 H2 k2 x2 w2 => ?_⟩
    have wy : Dp X.K B2 y (.int z) := w2
    cases wy
    exact ⟨b, ns, z, rfl, rfl, s.imp (x2.trans k2.exB).rd id, hz, q _ B2 H2 k2 (x1.trans x2) (.int _)⟩⟩
/-- l.index(x), l a list of data -/
theorem de_indexL {j : Nat} {z : PyData} (hu : X.A.units + 65 < cLine) (hx : SeqAt.shaped (.list ds) = true) (hy : SeqAt.shaped d = true) (hz : ds[j]? = some z) (hj : PyData.eqv z d = true) (hno : ∀ (m : Nat) (z' : PyData), m < j → ds[m]? = some z' → PyData.eqv z' d = false) (h0 : DE X ρ a (.d (.list ds)) ρ1) (h : DE X ρ1 e (.d d) ρ2) (hbase : attributeBase a "index" X.env (eval a X.env) = eval a X.env := by rfl)
    (hfew : ((backTo p (starEach [e] X.env)).all (fun x => !x.1) && (backToKw p (keywordEach [] X.env)).all (fun x => x.1.isSome) && decide ([e].length + ([] : List Keyword).length + (if ([] : List Keyword).isEmpty then 0 else 1) < 30)) = true := by rfl)
    (hline : (apos.endLine == p.line) = true := by rfl) (he : starEach [e] X.env = (false, eval e X.env) :: starEach [] X.env := by rfl) (hpl : (backTo p (starEach [] X.env)).any (·.1) = false := by rfl) :
    DE X ρ (.Call (.Attribute a "index" apos) [e] [] p) (.d (.int (j : Nat))) ρ2 := fun F Z B H σ Q k q =>
  ⟨_, pe_bm PySem.F.plainAttrs_list PySem.F.slot_list_index PySem.F.type_list_index (mt_indexD hu) pe_s (pa_cons pe_s pa_nil he) hbase hfew hline he hpl, h0 F Z B H σ _ k fun v B1 H1 k1 x1 w1 => by
    have w : Dp X.K B1 v (.list ds) := w1
    have w' := w
    cases w' with
    | @lst b us _ s _ =>
    refine ⟨.inl ⟨rfl, us, s.imp k1.exB.rd id⟩, h F Z B1 H1 σ _ k1 fun y B2 H2 k2 x2 w2 => ?_⟩
    exact ⟨b, y, d, ds, j, z, rfl, rfl, (dp_mono (x2.trans k2.exB) w).l2 (nd_sh hx), (dp_mono k2.exB (show Dp X.K B2 y d from w2)).l2 (nd_sh hy), hx, hy, hz, hj, hno, q _ B2 H2 k2 (x1.trans x2) (.int _)⟩⟩
end
/-! ### max(list), min(a, b) -/
section
variable {X : Cx} {ρ ρ1 ρ2 : Env'} {a b e : Expr} {p pos : Pos}
theorem de_maxL {ns : List Int} {m : Int} (hc : X.calm = true) (hm : m ∈ ns) (hy : ∀ y ∈ ns, y ≤ m) (h : DLd X ρ e (ns.map .int) ρ1) (hn : X.mg "max" = none) (hg : Gl X "max" := by rfl) (he : starEach [e] X.env = (false, eval e X.env) :: starEach [] X.env := by rfl) (hpl : (backTo pos (starEach [] X.env)).any (·.1) = false := by rfl) :
    DE X ρ (.Call (.Name "max" p) [e] [] pos) (.d (.int m)) ρ1 := fun F Z B H σ Q k q =>
  ⟨_, pe_callB (cr_max hc) hg hn PyProof.Rows.boot_max (pa_cons pe_s pa_nil he) (by decide) (by decide) he hpl, h F Z B H σ _ k fun a us B1 H1 k1 x1 hs t => by
    have e := DpAll.ints t
    subst e
    refine ⟨a, ns, rfl, hs, List.length_pos_of_mem hm, fun m' h1 h2 => ?_⟩
    obtain rfl : m' = m := Int.le_antisymm (hy _ h1) (h2 _ hm)
    exact q _ B1 H1 k1 x1 (.int _)⟩
theorem de_min2 {i j : Int} (hc : X.calm = true) (hm : X.mg "min" = none) (h : DA X ρ [a, b] [.int i, .int j] ρ1) (hg : Gl X "min" := by rfl) (he : starEach [a, b] X.env = (false, eval a X.env) :: starEach [b] X.env := by rfl)
    (hpl : (backTo pos (starEach [b] X.env)).any (·.1) = false := by rfl) : DE X ρ (.Call (.Name "min" p) [a, b] [] pos) (.d (.int (if j < i then j else i))) ρ1 := fun F Z B H σ Q k q =>
  ⟨_, pe_callB (call_min2 hc) hg hm PyProof.Rows.boot_min pa_s (by decide) (by decide) he hpl, h F Z B H σ _ k fun vs B1 H1 k1 x1 w => by
    cases w with
    | cons w1 w =>
      cases w with
      | cons w2 w =>
        cases w
        cases w1
        cases w2
        exact ⟨i, j, rfl, q _ B1 H1 k1 x1 (.int _)⟩⟩
end
end G

set_option Elab.async false
set_option linter.all false
set_option maxRecDepth 100000
set_option maxHeartbeats 4000000
/- isinstance, chains of comparisons, all, enumerate(list) -/
namespace G
open PySem L2 PySem.Spec PyProof.Rows
/-! ### isinstance -/
def tyD : PyData → String
  | .none => "NoneType"
  | .bool _ => "bool"
  | .int _ => "int"
  | .str _ => "str"
  | .list _ => "list"
  | .tuple _ => "tuple"
  | .dict _ => "dict"
theorem tyx_of {K : PySem.W.Frag} {B H : Hp} (x : Sub B H) {v : V} {d : PyData} (w : Dp K B v d) : TyX K H v (.type (tyD d)) := by
  cases w with
  | non => exact .base .non
  | bl b => exact .base (.bl b)
  | int i => exact .base (.int i)
  | str z => exact .base (.str z)
  | lst s r =>
    rcases s with (s | ⟨o, s⟩) | ⟨o, _, _, s, c, _⟩
    · exact .base (.lst (x _ _ s))
    · exact .base (.frz (x _ _ s))
    · exact .kList s c
  | tup s n r =>
    rcases s with (s | ⟨o, s⟩) | ⟨o, _, _, s, c, _⟩
    · exact .base (.tup (x _ _ s))
    · exact .fTuple (x _ _ s)
    · exact .kTuple s c
  | dct h hk t => exact .fDict (x _ _ h)
section
variable {X : Cx} {ρ ρ1 ρ2 ρ3 : Env'} {a b c e : Expr} {p q pos : Pos} {d : PyData} {n : String} {x : Str} {r : Bool}
theorem de_isi (hr : kitB (tyD d) n = some r) (hv : bootBuiltins x = some (.type n)) (h : DE X ρ e (.d d) ρ1) (hm : X.mg "isinstance" = none) (hx : X.mg x = none) (hg : Gl X "isinstance" := by rfl) (hgx : Gl X x := by rfl)
    (hn : x ≠ "__name__" := by decide) (hd : (x == ("__debug__" : Str)) = false := by decide) (he : starEach [e, .Name x q] X.env = (false, eval e X.env) :: starEach [.Name x q] X.env := by rfl) (he2 : starEach [.Name x q] X.env = (false, eval (.Name x q) X.env) :: starEach [] X.env := by rfl)
    (hpl : (backTo pos (starEach [.Name x q] X.env)).any (·.1) = false := by rfl) : DE X ρ (.Call (.Name "isinstance" p) [e, .Name x q] [] pos) (.d (.bool r)) ρ1 := fun F Z B H σ Q k w =>
  ⟨_, pe_callB call_isi hg hm PyProof.Rows.boot_isinstance (pa_cons pe_s (pa_cons (pe_bltn hgx hx hv (show RelV (.ty n) (.type n) from rfl) hn hd) pa_nil he2) he) (by decide) (by decide) he hpl, h F Z B H σ _ k fun v B1 H1 k1 x1 w1 =>
    ⟨v, .ty n, _, _, r, rfl, .ty n, tyx_of k1.exB w1, kit_ty hr, w _ B1 H1 k1 x1 (.bl _)⟩⟩
/-- a <= b < c, whole numbers -/
theorem de_between {i j k : Int} (ha : DE X ρ a (.d (.int i)) ρ1) (hb : DE X ρ1 b (.d (.int j)) ρ2) (hc : DE X ρ2 c (.d (.int k)) ρ2) (hm : lastMarks [.LtE, .Lt] [b, c] = false := by with_unfolding_all rfl) :
    DE X ρ (.Compare a [.LtE, .Lt] [b, c] pos) (.d (.bool (decide (i ≤ j) && decide (j < k)))) ρ2 := fun F Z B H σ Q kk w =>
  ⟨_, pe_chain op_le op_lt pe_s pe_s pe_s hm, ha F Z B H σ _ kk fun v1 B1 H1 k1 x1 w1 => hb F Z B1 H1 σ _ k1 fun v2 B2 H2 k2 x2 w2 => by
    have d1 : Dp X.K B1 v1 (.int i) := w1
    have d2 : Dp X.K B2 v2 (.int j) := w2
    cases d1
    cases d2
    refine ⟨i, j, rfl, rfl, decide (i ≤ j), rfl, ?_⟩
    by_cases hij : i ≤ j
    · rw [if_pos (decide_eq_true hij)]
      refine hc F Z B2 H2 σ _ k2 fun v3 B3 H3 k3 x3 w3 => ?_
      have d3 : Dp X.K B3 v3 (.int k) := w3
      cases d3
      exact ⟨j, k, rfl, rfl, w _ B3 H3 k3 ((x1.trans x2).trans x3) (by rw [decide_eq_true hij, Bool.true_and]; exact .bl _)⟩
    · rw [if_neg (by simpa using hij)]
      exact w _ B2 H2 k2 (x1.trans x2) (by rw [decide_eq_false hij, Bool.false_and]; exact .bl _)⟩
theorem de_all {bs : List Bool} (hc : X.calm = true) (h : DLd X ρ e (bs.map .bool) ρ1) (hm : X.mg "all" = none) (hg : Gl X "all" := by rfl) (he : starEach [e] X.env = (false, eval e X.env) :: starEach [] X.env := by rfl) (hpl : (backTo pos (starEach [] X.env)).any (·.1) = false := by rfl) :
    DE X ρ (.Call (.Name "all" p) [e] [] pos) (.d (.bool (bs.all id))) ρ1 := fun F Z B H σ Q k q =>
  ⟨_, pe_callB (cr_all hc) hg hm PyProof.Rows.boot_all (pa_cons pe_s pa_nil he) (by decide) (by decide) he hpl, h F Z B H σ _ k fun a us B1 H1 k1 x1 hs t => by
    have e := bools_of t
    subst e
    exact ⟨a, bs, rfl, hs, q _ B1 H1 k1 x1 (.bl _)⟩⟩
end
/-! ### enumerate(list) -/
/-- the list at a, each item in a new pair that keeps no dict -/
def ItEl (K : PySem.W.Frag) (a : Addr) : It :=
  ⟨fun i H => ∃ (xs : List V) (x : V), SqL K H a xs ∧ xs[i]? = some x, fun i H v H' => ∃ T x o, v = .ref T ∧ H T = none ∧ H' = upd H T (.frz o (.tup [.int (i : Nat), x])) ∧ o.dict = none ∧ o.cls = .type "tuple" ∧ ∀ xs, SqL K H a xs → xs[i]? = some x, fun i H => ∃ xs : List V, SqL K H a xs ∧ xs.length ≤ i⟩
theorem turn_enumL {P : Program} {w : World} {K : PySem.W.Frag} {elts : List Expr} {kk : Nat} {tpos : Pos} (a e it : Addr) :
    Turn P w K (.Tuple elts kk tpos) (ItEl K a) [e, it] e (fun i h => (∃ old, IsEnum h e it ((i : Nat) : Int) old) ∧ h.IsListIter it a i ∧ e ≠ it) where
  mem := by simp
  obj := by
    rintro i h ⟨⟨old, he⟩, ⟨o, ho, hc, hd⟩, _⟩ b hb
    rcases (show b = e ∨ b = it by simpa using hb) with z | z
    · rw [z]; exact ⟨_, he, fun v q => nomatch q⟩
    · rw [z]; exact ⟨o, ho, fun v q => by rw [hd] at q; cases q⟩
  keep := by
    rintro i h h' ⟨⟨old, he⟩, hi, hne⟩ k
    exact ⟨⟨old, k e (by simp) _ he⟩, hi.at fun o q => k it (by simp) o q, hne⟩
  item := by
    intro X hP hw hK hc i pins s σ H E I hf st hg
    subst hP hw hK
    obtain ⟨⟨old, he⟩, hit, hne⟩ := st
    obtain ⟨xs, x, hq, hx⟩ := hg
    obtain ⟨its, rv, p, hz⟩ := I.list hq
    obtain ⟨u, hu, ru⟩ := rv.get hx
    have hel : e < s.heap.objs.size := Heap.lt_size he
    have hil : it < s.heap.objs.size := by obtain ⟨_, q, _⟩ := hit; exact Heap.lt_size q
    refine wpAny_pyNext_enum_item he hit p.isList (x := u) (by simpa using hu) hne fun h' ho hit' hT hsz hk => ⟨_, rfl, ?_⟩
    refine wpAny_letOwnedTupleGo_enum (s := { s with heap := h', toks := s.toks + 1 }) ho fun h'' he' sb => ?_
    have hT2 := (sb.2 _ (Nat.ne_of_gt hel)).trans hT
    have new : ObjOk X.prog X.w (upd H s.heap.objs.size (.frz { cls := .type "tuple", data := .seq #[.int i s.toks, u] } (.tup [.int (i : Nat), x]))) h'' s.heap.objs.size (.frz { cls := .type "tuple", data := .seq #[.int i s.toks, u] } (.tup [.int (i : Nat), x])) :=
      ⟨hT2, by show 2 ≤ sizeLine; decide, [.int i s.toks, u], .cons ⟨_, rfl⟩ (.cons ru .nil), ⟨_, hT2, rfl, _, rfl⟩⟩
    have I1 : Inv X pins σ (upd H s.heap.objs.size (.frz { cls := .type "tuple", data := .seq #[.int i s.toks, u] } (.tup [.int (i : Nat), x]))) { s with heap := h'', toks := s.toks + 1 } :=
      I.turnedNew (ch := [e, it]) (fun b ob hb q => (sb.2 b (fun z => hb (by simp [z]))).trans (hk b ob (fun z => hb (by simp [z])) (fun z => hb (by simp [z])) q)) hf (Nat.le_refl _) new
    refine ⟨.ref s.heap.objs.size, _, I1, rfl, ⟨_, x, _, rfl, I.hok.fresh (Nat.le_refl _), rfl, rfl, rfl, fun ys hy => by rw [I.list_inj hy hq]; exact hx⟩, ⟨⟨u, ?_⟩, hit'.at fun o q => (sb.2 it (Ne.symm hne)).trans q, hne⟩, fun b hb => ?_⟩
    · rw [show ((i + 1 : Nat) : Int) = (i : Int) + 1 by omega]
      exact he'
    · have hb' : b < s.heap.objs.size := by
        rcases (show b = e ∨ b = it by simpa using hb) with z | z
        · rw [z]; exact hel
        · rw [z]; exact hil
      rw [upd_ne (Nat.ne_of_lt hb')]
      exact (hf b hb).1
  done := by
    intro X hP hw hK hc i pins s σ H E I hf st hg
    subst hP hw hK
    obtain ⟨⟨old, he⟩, hit, hne⟩ := st
    obtain ⟨xs, hq, hx⟩ := hg
    obtain ⟨its, rv, p, hz⟩ := I.list hq
    obtain ⟨f0, f1, f2, f3, f4, f5⟩ := hf it (by simp)
    have hl := rv.length
    exact wpAny_pyNext_enum_end (I.ok.hd hc) he hit p.isList (by simp; omega) fun h' eb => ⟨rfl, I.turned (t' := s.toks) (fun b o hb q => eb b o hb q) f0 f1 f3 f4 f5⟩
  self := by
    rintro A i s Q E ⟨⟨_, he⟩, _⟩ h
    exact wpAny_pyIter_enum he h
def iEnumL (K : PySem.W.Frag) (ta : TA) : TI := fun σ H R => ta σ H fun vs H1 => ∃ a xs, vs = [.ref a] ∧ SqL K H1 a xs ∧ R (ItEl K a) H1
theorem pi_enumL {X : Cx} {e : Expr} {ta : TA} {p pos tpos : Pos} {elts : List Expr} {kk : Nat} (hg : Gl X "enumerate") (hm : X.mg "enumerate" = none) (ha : PA X [e] ta) (hs : starEach [e] X.env = [(false, eval e X.env)] := by rfl) : PI X (.Tuple elts kk tpos) (.Call (.Name "enumerate" p) [e] [] pos) (iEnumL X.K ta) := by
  refine ⟨fun pins s σ H R I h => Call_ (ld_blt I hg hm PyProof.Rows.boot_enumerate (PyProof.Rows.callWith_type1 (thn (ha.run pos pins s σ H _ I h) fun us s1 ⟨vs, H1, I1, r1, q1⟩ => ?_) hs rfl))⟩
  obtain ⟨a, xs, ex, hq, q⟩ := q1
  subst ex
  obtain ⟨u, eu, rx⟩ := vals1 r1
  subst eu
  cases rx
  obtain ⟨its, rv, p', hz⟩ := I1.list hq
  refine call_enumerate_list p'.isList fun h' he hit hsz hk => wpAny_pyIter_enum he ?_
  refine ⟨s1.heap.objs.size + 1, [s1.heap.objs.size + 1, s1.heap.objs.size], _, _, H1, rfl, I1.kept (t' := s1.toks) hk, turn_enumL a (s1.heap.objs.size + 1) s1.heap.objs.size, ⟨⟨.none, he⟩, hit, Nat.succ_ne_self _⟩, fun b hb => ?_, q⟩
  have hle : s1.heap.objs.size ≤ b := by
    rcases (show b = s1.heap.objs.size + 1 ∨ b = s1.heap.objs.size by simpa using hb) with z | z
    · rw [z]; exact Nat.le_add_right _ _
    · rw [z]; exact Nat.le_refl _
  exact I1.fpOk hle (I1.hok.fresh hle)
theorem walk_enumL {K : PySem.W.Frag} {a : Addr} {xs : List V} : Walk (ItEl K a) xs.length (fun H => SqL K H a xs) (YPairN (fun i => some (.int (i : Nat))) (fun i => xs[i]?)) := by
  refine ⟨fun i _ hi q => ⟨xs, xs[i], q, by simp [hi]⟩, fun _ q => ⟨xs, q, Nat.le_refl _⟩, ?_⟩
  rintro i H v H' _ q ⟨T, x, o, h1, h2, h3, h5, h6, h4⟩
  exact ⟨T, .int (i : Nat), x, o, h1, h2, h3, h5, h6, rfl, h4 xs q⟩
theorem di_enumL {X : Cx} {ρ ρ1 : Env'} {e : Expr} {p pos tpos : Pos} {elts : List Expr} {kk : Nat} {xs : List PyData} (hm : X.mg "enumerate" = none) (h : DE X ρ e (.d (.list xs)) ρ1) (hg : Gl X "enumerate" := by rfl) (hs : starEach [e] X.env = [(false, eval e X.env)] := by rfl)
    (he : starEach [e] X.env = (false, eval e X.env) :: starEach [] X.env := by rfl) : DI X ρ (.Tuple elts kk tpos) (.Call (.Name "enumerate" p) [e] [] pos) (pairsD xs) ρ1 := fun F Z B H σ Q k q =>
  ⟨_, pi_enumL hg hm (pa_cons pe_s pa_nil he) hs, h F Z B H σ _ k fun v B1 H1 k1 x1 w => by
    have w' : Dp X.K B1 v (.list xs) := w
    cases w' with
    | @lst a vs _ s t =>
    refine ⟨a, vs, rfl, s.imp k1.exB.rd id, q _ _ _ _ B1 H1 k1 x1 (by rw [pairsD_len]; exact DpAll.length t) walk_enumL (fun B2 H2 y1 y2 => s.imp (y1.trans y2).rd id) ?_⟩
    rintro F2 Z2 B2 H2 σ2 ρ2 i v H3 k2 y2 hi ⟨T, x, y, o, rfl, hT, rfl, od, oc, hx, hy⟩
    obtain rfl : V.int (i : Nat) = x := Option.some.inj hx
    obtain ⟨d, h1, h2⟩ := DpAll.get t hy
    have n := k2.fresh hT
    exact ⟨_, _, pairsD_at h1, k2.new hT _, Sub.new _ n.2.1, .tup (.inl (.inr ⟨o, upd_same⟩)) ⟨o, _, upd_same, od, oc⟩ (dpAll_mono (Sub.new _ n.2.1) (.cons (.int _) (.cons (dp_mono y2 h2) .nil)))⟩⟩
end G

set_option Elab.async false
set_option linter.all false
set_option maxRecDepth 100000
set_option maxHeartbeats 4000000
/- loops that leave with what they first find, -x, isinstance of anything, shapes -/
namespace G
open PySem L2 PySem.Spec PyProof.Rows
section
variable {X : Cx} {ρ ρ1 ρ2 ρ3 : Env'} {a b c e tg iter : Expr} {p q pos : Pos} {body rest : List Stmt} {o : O}
/-- a loop that returns the first thing it finds -/
theorem db_forO {α : Type} (l : List α) (G' : α → PyData) (f : α → Option PyData) (hp : PassesOwn (model X.prog X.w) X.A X.env X.xe) (hc : X.calm = true) (hi : DI X ρ tg iter (l.map G') ρ1)
    (turn : ∀ x ∈ l, ∃ ρt js, DG X ρ1 tg (G' x) js ρt ∧ (f x = none → DB X ρt body (.nx ρ1)) ∧ (∀ d, f x = some d → DB X ρt body (.rt d ρ1)))
    (go : l.findSome? f = none → DB X ρ1 rest o) (bad : ∀ d, l.findSome? f = some d → o = .rt d ρ1)
    (hs : ∀ x, foldedSetIterable iter X.env x = pure x := by intro _; rfl) : DB X ρ (.For tg iter body [] pos :: rest) o := by
  cases hb : l.findSome? f with
  | none =>
    refine db_cons (ds_for hp hc hi (fun _ => ρ1) (.refl _) (fun i x hx => ?_) rfl hs) (go hb)
    rw [List.getElem?_map] at hx
    cases hli : l[i]? with
    | none => rw [hli] at hx; cases hx
    | some y =>
      rw [hli] at hx
      cases hx
      have hy := List.mem_of_getElem? hli
      obtain ⟨ρt, js, h1, h2, _⟩ := turn y hy
      exact ⟨ρt, js, h1, h2 (List.findSome?_eq_none_iff.mp hb y hy)⟩
  | some d =>
    obtain rfl := bad d hb
    have ⟨m, hm, e, lo⟩ : ∃ m, ∃ hm : m < l.length, f l[m] = some d ∧ ∀ i (h : i < l.length), i < m → f l[i] = none := by
      clear turn go bad hi
      induction l with
      | nil => simp at hb
      | cons b bs ih =>
        cases hfb : f b with
        | some d' =>
          rw [List.findSome?_cons, hfb] at hb
          exact ⟨0, by simp, by simpa [hfb] using hb, fun i _ z => absurd z (Nat.not_lt_zero i)⟩
        | none =>
          rw [List.findSome?_cons, hfb] at hb
          obtain ⟨m, hm, e, lo⟩ := ih hb
          refine ⟨m + 1, by simpa using hm, by simpa using e, fun i h z => ?_⟩
          cases i with
          | zero => simpa using hfb
          | succ i => simpa using lo i (by simpa using h) (by omega)
    have gx : ∀ {i : Nat} {x : PyData}, (l.map G')[i]? = some x → ∃ hi : i < l.length, x = G' l[i] := fun {i x} hx => by
      rw [List.getElem?_map] at hx
      cases hli : l[i]? with
      | none => rw [hli] at hx; cases hx
      | some y =>
        rw [hli] at hx
        obtain ⟨h1, h2⟩ := List.getElem?_eq_some_iff.mp hli
        exact ⟨h1, by rw [h2]; exact (Option.some.inj hx).symm⟩
    refine db_rt (for_leaves hp hc hi m (by rw [List.length_map]; exact hm) (fun _ => ρ1) (.refl _) (fun i x him hx => ?_) (fun x hx => ?_) hs)
    · obtain ⟨hi', rfl⟩ := gx hx
      obtain ⟨ρt, js, h1, h2, _⟩ := turn _ (List.getElem_mem hi')
      exact ⟨ρt, js, _, h1, .inl (h2 (lo i hi' him)), .refl _⟩
    · obtain ⟨hi', rfl⟩ := gx hx
      obtain ⟨ρt, js, h1, _, h3⟩ := turn _ (List.getElem_mem hi')
      exact ⟨ρt, js, h1, .inl ⟨_, _, h3 d e, rfl⟩⟩
/-- a turn of such a loop, whatever it ends in -/
theorem turn_opt {v : Option PyData} {ρt ρa : Env'} {sts : List Stmt} (h : ∀ o : O, (v = none → o = .nx ρa) → (∀ d, v = some d → o = .rt d ρa) → DB X ρt sts o) (w : Wk ρa ρ1) : (v = none → DB X ρt sts (.nx ρ1)) ∧ (∀ d, v = some d → DB X ρt sts (.rt d ρ1)) :=
  ⟨fun e => db_weak (h _ (fun _ => rfl) (fun d z => by rw [e] at z; cases z)) w, fun d e => db_rtW (h _ (fun z => by rw [e] at z; cases z) (fun d' z => by rw [e] at z; cases z; rfl)) w⟩
theorem turn_ifO {x : Bool} {d : PyData} {ρt ρa ρr : Env'} {as : List Stmt} (h : DT X ρt c x ρa) (hr : x = true → DB X ρa as (.rt d ρr)) (w : Wk ρa ρ1) (w' : Wk ρr ρ1) : ((if x = true then some d else none) = none → DB X ρt [.If c as [] pos] (.nx ρ1)) ∧ (∀ d', (if x = true then some d else none) = some d' → DB X ρt [.If c as [] pos] (.rt d' ρ1)) := by
  cases x with
  | true => exact ⟨fun z => by simp at z, fun d' z => by obtain rfl : d = d' := by simpa using z
                                                         exact db_ifT h (db_rtW (hr rfl) w')⟩
  | false => exact ⟨fun _ => db_ifF h (db_weak db_nil w), fun d' z => by simp at z⟩
theorem dw_orT {es : List Expr} (h : DT X ρ a true ρ1) : DW X ρ (.BoolOp .Or (a :: b :: es) pos) true ρ1 := dw_or (y := true) h (fun z => nomatch z) (fun _ => rfl)
theorem de_neg {i : Int} (h : DE X ρ a (.d (.int i)) ρ1) : DE X ρ (.UnaryOp .USub a pos) (.d (.int (-i))) ρ1 := fun F Z B H σ Q k q =>
  ⟨_, pe_un un_neg pe_s, h F Z B H σ _ k fun v B1 H1 k1 x1 w => by
    have w' : Dp X.K B1 v (.int i) := w
    cases w'
    exact ⟨i, rfl, q _ B1 H1 k1 x1 (.int _)⟩⟩
theorem od_eqS {K : PySem.W.Frag} {i j : Str} : OpD K rEq ρ (.d (.str i)) (.d (.str j)) (.d (.bool (decide (i = j)))) := fun F Z B H σ Q v1 v2 k w1 w2 q => by
  cases w1; cases w2
  have e : decide (V.str i = V.str j) = decide (i = j) := by simp
  exact ⟨rfl, e ▸ q _ B H k (Sub.refl B) (.bl _)⟩
theorem dt_eqS {i j : Str} (ha : DE X ρ a (.d (.str i)) ρ1) (hb : DE X ρ1 b (.d (.str j)) ρ2) : DT X ρ (.Compare a [.Eq] [b] pos) (decide (i = j)) ρ2 := dt_cmp op_eq od_eqS (nomark b) ha hb
/-! ### isinstance of anything -/
def isT (n : String) : PyData → Bool
  | .none => n == "NoneType"
  | .bool _ => n == "bool" || n == "int"
  | .int _ => n == "int"
  | .str _ => n == "str"
  | .list _ => n == "list"
  | .tuple _ => n == "tuple"
  | .dict _ => n == "dict" 
theorem de_isX {n : String} {d : PyData} {x : Str} (hr : ∀ z ∈ [PyData.none, .bool true, .int 0, .str "", .list [], .tuple [], .dict []], kitB (tyD z) n = some (isT n z)) (hv : bootBuiltins x = some (.type n)) (h : DE X ρ e (.d d) ρ1) (hm : X.mg "isinstance" = none) (hx : X.mg x = none) (hg : Gl X "isinstance" := by rfl) (hgx : Gl X x := by rfl)
    (hn : x ≠ "__name__" := by decide) (hd : (x == ("__debug__" : Str)) = false := by decide) (he : starEach [e, .Name x q] X.env = (false, eval e X.env) :: starEach [.Name x q] X.env := by rfl) (he2 : starEach [.Name x q] X.env = (false, eval (.Name x q) X.env) :: starEach [] X.env := by rfl)
    (hpl : (backTo pos (starEach [.Name x q] X.env)).any (·.1) = false := by rfl) : DE X ρ (.Call (.Name "isinstance" p) [e, .Name x q] [] pos) (.d (.bool (isT n d))) ρ1 := fun F Z B H σ Q k w =>
  ⟨_, pe_callB call_isi hg hm PyProof.Rows.boot_isinstance (pa_cons pe_s (pa_cons (pe_bltn hgx hx hv (show RelV (.ty n) (.type n) from rfl) hn hd) pa_nil he2) he) (by decide) (by decide) he hpl, h F Z B H σ _ k fun v B1 H1 k1 x1 w1 => by
    have w' : Dp X.K B1 v d := w1
    have e : kitB (tyD d) n = some (isT n d) := by
      cases w' with
      | non => exact hr .none (by simp)
      | bl b => exact hr (.bool true) (by simp)
      | int i => exact hr (.int 0) (by simp)
      | str z => exact hr (.str "") (by simp)
      | lst _ _ => exact hr (.list []) (by simp)
      | tup _ _ _ => exact hr (.tuple []) (by simp)
      | dct _ _ _ => exact hr (.dict []) (by simp)
    exact ⟨v, .ty n, _, _, isT n d, rfl, .ty n, tyx_of k1.exB w', kit_ty e, w _ B1 H1 k1 x1 (.bl _)⟩⟩
end
/-! ### shapes -/
def Sx (n : Nat) (d : PyData) : Prop := d.canLay0 = true ∧ d.depth ≤ n
theorem Sx.sh {n : Nat} {d : PyData} (h : Sx n d) (hn : n ≤ 64 := by decide) : SeqAt.shaped d = true := by
  show (PyData.canLay0 d && decide (d.depth ≤ 64)) = true
  rw [h.1, decide_eq_true (Nat.le_trans h.2 hn)]; rfl
theorem Sx.mono {n m : Nat} {d : PyData} (h : Sx n d) (hn : n ≤ m) : Sx m d := ⟨h.1, Nat.le_trans h.2 hn⟩
theorem sx_int {i : Int} : Sx 0 (.int i) := ⟨by simp [PyData.canLay0], by simp [PyData.depth]⟩
theorem sx_bool {i : Bool} : Sx 0 (.bool i) := ⟨by simp [PyData.canLay0], by simp [PyData.depth]⟩
theorem sx_none : Sx 0 .none := ⟨by simp [PyData.canLay0], by simp [PyData.depth]⟩
theorem sx_all {n : Nat} {xs : List PyData} (h : ∀ x ∈ xs, Sx n x) : PyData.canLayAll0 xs = true ∧ PyData.depthAll xs ≤ n := by
  induction xs with
  | nil => exact ⟨by simp [PyData.canLayAll0], by simp [PyData.depthAll]⟩
  | cons x xs ih =>
    obtain ⟨h1, h2⟩ := ih fun y hy => h y (List.mem_cons_of_mem _ hy)
    have q := h x List.mem_cons_self
    refine ⟨by simp only [PyData.canLayAll0, q.1, h1, Bool.and_self], ?_⟩
    simp only [PyData.depthAll]
    have := q.2
    omega
theorem sx_tup {n : Nat} {xs : List PyData} (h : ∀ x ∈ xs, Sx n x) : Sx (n + 1) (.tuple xs) := by
  obtain ⟨h1, h2⟩ := sx_all h
  exact ⟨by simpa only [PyData.canLay0] using h1, by simp only [PyData.depth]; omega⟩
theorem sx_list {n : Nat} {xs : List PyData} (h : ∀ x ∈ xs, Sx n x) : Sx (n + 1) (.list xs) := by
  obtain ⟨h1, h2⟩ := sx_all h
  exact ⟨by simpa only [PyData.canLay0] using h1, by simp only [PyData.depth]; omega⟩
theorem sx_of {d : PyData} (h : SeqAt.shaped d = true) : d.canLay0 = true := by
  have h' : (PyData.canLay0 d && decide (d.depth ≤ 64)) = true := h
  rw [Bool.and_eq_true] at h'
  exact h'.1
end G

set_option Elab.async false
set_option linter.all false
set_option maxRecDepth 100000
set_option maxHeartbeats 4000000
/- *row in a tuple; dicts whose keys are texts; x, y = [..], [..] -/
namespace G
open PySem L2 PySem.Spec PyProof.Rows
section
variable {X : Cx} {ρ ρ' ρ1 ρ2 ρ3 : Env'} {a b c e kx vx tg iter : Expr} {es : List Expr} {p pos : Pos} {xs ys zs : List PyData}
theorem da_star (h : DE X ρ e (.d (.tuple xs)) ρ1) (t : DA X ρ1 es ys ρ2) (hs : starEach (.Starred e p :: es) X.env = (true, eval e X.env) :: starEach es X.env := by rfl) : DA X ρ (.Starred e p :: es) (xs ++ ys) ρ2 := fun F Z B H σ Q k q =>
  ⟨_, StX.pa_star pe_s pa_s hs, h F Z B H σ _ k fun v B1 H1 k1 x1 w => by
    obtain ⟨a, vs, e, s, _, t0⟩ := tup_at k1 w
    exact ⟨a, vs, e, .inl s, t F Z B1 H1 σ _ k1 fun us B2 H2 k2 x2 w2 => q _ B2 H2 k2 (x1.trans x2) (G.DpAll.append (dpAll_mono x2 t0) w2)⟩⟩
/-- x, y = [..], [..] -/
theorem ds_par2L {i j : Nat} {x y : Str} {s1 s2 : Sl} {px py pt pt2 : Pos} {kt k2} (hc : X.calm = true) (hN : X.N.Nodup) (h2 : DL X ρ a ys ρ1) (h3 : DL X ρ1 b zs ρ2)
    (hr1 : ρ2[i]? = some s1 := by rfl) (hr2 : ρ2[j]? = some s2 := by rfl) (hi : X.N[i]? = some x := by rfl) (hj : X.N[j]? = some y := by rfl) (hij : i ≠ j := by decide)
    (lx : X.env.scope.names.lookup x = some .local := by rfl) (ly : X.env.scope.names.lookup y = some .local := by rfl)
    (hw : swappedStores [.Tuple [.Name x px, .Name y py] kt pt] (.Tuple [a, b] k2 pt2) X.env = pure (some [x, y]) := by rfl)
    (hs : swapsWithSole [.Tuple [.Name x px, .Name y py] kt pt] (.Tuple [a, b] k2 pt2) pos.line X.env = pure false := by rfl)
    (hs1 : starEach [a, b] X.env = (false, eval a X.env) :: starEach [b] X.env := by rfl) (hs2 : starEach [b] X.env = (false, eval b X.env) :: starEach [] X.env := by rfl) :
    DS X ρ (.Assign [.Tuple [.Name x px, .Name y py] kt pt] (.Tuple [a, b] k2 pt2) pos) (.nx ((ρ2.set i (.o (.lst ys))).set j (.o (.lst zs)))) := fun F Z B H σ D k q =>
  ⟨_, ps_par hc hN hi hj hij lx ly (pa_cons pe_s (pa_cons pe_s pa_nil hs2) hs1) hw hs,
    h2 F Z B H σ _ k fun p2 us2 B2 H2 k2 x2 n2 hp2 t2 => by
    refine h3 _ _ B2 H2 σ _ (k2.lock n2 hp2) fun p3 us3 B3 H3 k3 x3 n3 hp3 t3 => ?_
    obtain ⟨k4, n4, h4⟩ := k3.unlock n2.f n2.z
    obtain ⟨n5, ne⟩ := n3.less
    have i1 : i < ρ2.length := (List.getElem?_eq_some_iff.mp hr1).1
    have j1 : j < ρ2.length := (List.getElem?_eq_some_iff.mp hr2).1
    have o2 : ObAt X.K B3 H3 (.ref p2) [p2] (.lst ys) := .lst h4 (dpAll_mono x3 t2)
    have k5 := k4.take n4 i1 o2
    have n6 := n5.setO (i := i) (v := .ref p2) k4.len o2 (by simpa using ne)
    have k6 := k5.take n6 (by rw [List.length_set]; exact j1) (.lst hp3 t3)
    exact ⟨.ref p2, .ref p3, rfl, q B3 H3 _ k6 (x2.trans x3)⟩⟩
/-! ### {text: .. for .. in ..} -/
def tabL (l : List (Str × PyData)) : List (Key × PyData) := l.foldl (fun kvs p => putD kvs (.inr p.1) p.2) []
theorem putD_len {kvs : List (Key × PyData)} {k : Key} {d : PyData} : (putD kvs k d).length ≤ kvs.length + 1 := by
  unfold putD
  split <;> simp
theorem tabF_len : ∀ (l : List (Str × PyData)) (kvs : List (Key × PyData)), (l.foldl (fun kvs p => putD kvs (.inr p.1) p.2) kvs).length ≤ kvs.length + l.length
  | [], _ => Nat.le_refl _
  | p :: l, kvs => by
    rw [List.foldl_cons]
    have h1 := tabF_len l (putD kvs (.inr p.1) p.2)
    have h2 := putD_len (kvs := kvs) (k := .inr p.1) (d := p.2)
    simp only [List.length_cons]
    omega
theorem tabL_len (l : List (Str × PyData)) : (tabL l).length ≤ l.length := by
  have := tabF_len l []
  rw [List.length_nil, Nat.zero_add] at this
  exact this
theorem tabL_snoc (l : List (Str × PyData)) (p : Str × PyData) : tabL (l ++ [p]) = putD (tabL l) (.inr p.1) p.2 := by
  unfold tabL
  rw [List.foldl_append]; rfl
theorem df_dcT {α : Type} {scope : Scope} (l : List α) (G' : α → PyData) (kf : α → Str) (vf : α → PyData) (own : List (Str × Nat)) (hc : X.calm = true) (hN : X.N.Nodup) (ok : BlkOk X.N X.env.scope scope own) (hi : DI X ρ tg iter (l.map G') ρ1) (hv : ∀ j ∈ own.map (·.2), gS ρ1 j = .un)
    (turn : ∀ x ∈ l, ∃ ρt js ρk ρe, (Blk X scope fun Y => DG Y ρ1 tg (G' x) js ρt) ∧ (Blk X scope fun Y => DE Y ρt kx (.d (.str (kf x))) ρk) ∧ (Blk X scope fun Y => DE Y ρk vx (.d (vf x)) ρe) ∧ (∀ j ∈ js, j ∈ own.map (·.2)) ∧ Wk ρe ρ1) (hz : l.length < 1000000)
    (hs : ∀ x, foldedSetIterable iter X.env x = pure x := by intro _; rfl) : DF X ρ (.DictComp kx vx [⟨tg, iter, [], 0⟩] scope pos) (.dk (tabL (l.map fun x => (kf x, vf x)))) ρ1 := fun F Z B H σ Q k q =>
  ⟨_, pe_dc (g := bG X scope tg) (tt := tYes) (tk := bE X scope kx) (tv := bE X scope vx) hc hN pi_s ok pg_b (fun _ _ _ _ _ => pts_nil) pe_b pe_b hs, by
    refine hi F Z B H σ _ k fun J n Gd Y B1 H1 k1 x1 hn W hG hY D hD => ?_
    rw [List.length_map] at hn
    subst hn
    generalize hvs : own.map (·.2) = vs at hv turn ⊢
    have wu := wipeE_wk hv
    have kw := (k1.wipe vs).weak wu
    obtain ⟨frD, _, frZ⟩ := k1.fresh hD
    refine ⟨fun i m H' => m = l.length - i ∧ i ≤ l.length ∧ ∃ B', Ok X.K F Z B' H' (wipe σ vs) ρ1 ∧ Sub B1 B' ∧ New X.K F Z B' H' (wipe σ vs) ρ1 D ∧ ObAt X.K B' H' (.ref D) [D] (.dk (tabL ((l.take i).map fun x => (kf x, vf x)))), ⟨l.length, by simp, Nat.zero_le _, B1, kw.loose hD _, Sub.refl B1, kw.laid hD _, .dk upd_same .nil⟩, ?_⟩
    rintro i m H' ⟨rfl, hle, B', k', y, nw, ob⟩
    by_cases hlt : i < l.length
    · refine .inr ⟨W.goes i H' hlt (hG B' H' y k'.exB), fun H' => ∃ B', Ok X.K F Z B' H' (wipe σ vs) ρ1 ∧ Sub B1 B' ∧ New X.K F Z B' H' (wipe σ vs) ρ1 D ∧ ObAt X.K B' H' (.ref D) [D] (.dk (tabL ((l.take (i + 1)).map fun x => (kf x, vf x)))), fun H' h => ⟨l.length - (i + 1), by omega, rfl, hlt, h⟩, ?_⟩
      intro v H2 hv'
      have hv' := W.yields i H' v H2 hlt (hG B' H' y k'.exB) hv'
      cases ob with
      | @dk _ r _ d1 d5 =>
      obtain ⟨B2, x, hx, k2, y2, w⟩ := hY _ _ B' H' (wipe σ vs) ρ1 i v H2 (k'.lock nw d1) y hlt hv'
      have hli : l[i]? = some l[i] := List.getElem?_eq_getElem hlt
      rw [List.getElem?_map, hli] at hx
      cases hx
      obtain ⟨ρt, js, ρk, ρe, t2, t3, t4, t1, t5⟩ := turn l[i] (List.getElem_mem hlt)
      intro s0 H0 C0 cl0 fp0
      refine t2 s0 H0 C0 cl0 fp0 _ _ B2 H2 (wipe σ vs) v _ k2 w fun B3 H3 σ3 k3 y3 wp => ?_
      have e3 : wipe σ3 vs = wipe σ vs := wipe_wipe (wp vs t1)
      refine ⟨by rw [e3], ?_⟩
      unfold tYes
      dsimp only
      rw [if_pos rfl]
      intro s1 H1' C1 cl1 fp1
      refine t3 s1 H1' C1 cl1 fp1 _ _ B3 H3 σ3 _ k3 fun vk B4 H4 k4 y4 wk => ?_
      intro s2 H2' C2 cl2 fp2
      refine t4 s2 H2' C2 cl2 fp2 _ _ B4 H4 σ3 _ k4 fun vz B5 H5 k5 y5 wz => ?_
      have k5' := ((k5.weak t5).wipe vs).weak wu
      rw [e3] at k5'
      obtain ⟨k6, n6, h6⟩ := k5'.unlock frD frZ
      have yy : Sub B' B5 := ((y2.trans y3).trans y4).trans y5
      have dk : Dp X.K B4 vk (.str (kf l[i])) := wk
      cases dk
      have d5' := d5.mono yy
      refine ⟨r, .inr (kf l[i]), rfl, h6, ?_, ?_⟩
      · rw [d5.length]
        have h1 := tabL_len ((l.take i).map fun x => (kf x, vf x))
        rw [List.length_map, List.length_take] at h1
        have z : (1000000 : Nat) ≤ sizeLine := by decide
        omega
      · refine ⟨B5, k6.poke n6, y.trans yy, n6.poke k6, ?_⟩
        rw [List.take_add_one, hli, List.map_append]
        show ObAt X.K B5 _ _ _ (.dk (tabL (_ ++ [(kf l[i], vf l[i])])))
        rw [tabL_snoc]
        exact .dk upd_same (d5'.put wz)
    · have e : i = l.length := by omega
      subst e
      have dn0 := ob
      cases ob with
      | @dk _ r _ d1 d5 =>
      obtain ⟨k6, n6, h6⟩ := (Ok.merge k1 (k'.lock nw d1) y (mrg_un rfl hv)).unlock frD frZ
      rw [List.take_length] at dn0
      exact .inl ⟨W.stops H' (hG B' H' y k'.exB), q D B' H' k6 (x1.trans y) n6 dn0⟩⟩
theorem KvAll.find {K : PySem.W.Frag} {B : Hp} : ∀ {r : List (Key × V)} {s : List (Key × PyData)} {k : Key} {d : PyData}, KvAll K B r s → (k, d) ∈ s → ∃ (i : Nat) (v : V), r[i]? = some (k, v) ∧ Dp K B v d
  | _, _, _, _, .nil, h => nomatch h
  | _, _, k, d, .cons h t, m => by
    rcases List.mem_cons.mp m with e | m
    · cases e
      exact ⟨0, _, rfl, h⟩
    · obtain ⟨i, v, q1, q2⟩ := KvAll.find t m
      exact ⟨i + 1, v, by simpa using q1, q2⟩
/-- d[text], d of our own -/
theorem de_dkAt {i : Nat} {t : Str} {d : PyData} {kvs : List (Key × PyData)} (hu : X.A.units + 100 < cLine) (nd : (kvs.map (·.1)).Nodup) (hm : ((.inr t : Key), d) ∈ kvs) (ho : DE X ρ a (.o i) ρ1) (he : DE X ρ1 b (.d (.str t)) ρ2) (hs : ρ2[i]? = some (.o (.dk kvs)) := by rfl) (hnl : NoSl b := by intro _ _; rfl) :
    DE X ρ (.Subscript a b pos) (.d d) ρ2 := fun F Z B H σ Q k q =>
  ⟨_, pe_dget (by omega) pe_s pe_s hnl, ho F Z B H σ _ k fun v1 B1 H1 k1 x1 w1 => he F Z B1 H1 σ _ k1 fun v2 B2 H2 k2 x2 w2 => by
    obtain ⟨v', as, g1, g2, _⟩ := k2.ob (gS_some hs)
    have w' : gV σ i = some v1 := w1
    rw [w'] at g1
    cases g1
    have dt : Dp X.K B2 v2 (.str t) := w2
    cases dt
    cases g2 with
    | @dk aa r _ h t0 =>
    obtain ⟨j, v, h1, h2⟩ := t0.find hm
    have g := DGet.k (k := (.inr t : Key)) h
    rw [valV_nodup (by rw [t0.at.2]; exact nd) h1] at g
    exact ⟨aa, v, rfl, g, q v B2 H2 k2 (x1.trans x2) h2⟩⟩
/-- sorted(d), d of our own, its keys texts -/
theorem dl_sortTx {i : Nat} {kvs : List (Key × PyData)} {ks zs : List Str} (hc : X.calm = true) (hk : kvs.map (·.1) = ks.map Sum.inr) (hz : ks.length < 64) (hu : ∀ ys : List Str, ys.Perm ks → sortedS ys = true → ys = zs) (hm : X.mg "sorted" = none) (h : DE X ρ e (.o i) ρ1) (hs : ρ1[i]? = some (.o (.dk kvs)) := by rfl) (hg : Gl X "sorted" := by rfl)
    (he : starEach [e] X.env = (false, eval e X.env) :: starEach [] X.env := by rfl) (hpl : (backTo pos (starEach [] X.env)).any (·.1) = false := by rfl) : DL X ρ (.Call (.Name "sorted" p) [e] [] pos) (zs.map .str) ρ1 := fun F Z B H σ Q k q =>
  ⟨_, pe_callB (call_sortedD hc) hg hm PyProof.Rows.boot_sorted (pa_cons pe_s pa_nil he) (by decide) (by decide) he hpl, h F Z B H σ _ k fun v B1 H1 k1 x1 w1 => by
    obtain ⟨v', as, g1, g2, _⟩ := k1.ob (gS_some hs)
    have w' : gV σ i = some v := w1
    rw [w'] at g1
    cases g1
    cases g2 with
    | @dk aa r _ h t =>
    refine ⟨aa, r, ks, rfl, .inl h, by rw [t.at.2]; exact hk, hz, fun ys l hp hs2 hl => ?_⟩
    obtain rfl := hu ys hp hs2
    have asS : ∀ ys : List Str, DpAll X.K B1 (ys.map V.str) (ys.map PyData.str) := by
      intro ys
      induction ys with
      | nil => exact .nil
      | cons y ys ih => exact .cons (.str y) ih
    exact q l _ B1 _ (k1.loose hl _) x1 (k1.laid hl _) upd_same (asS ys)⟩
end
end G

set_option Elab.async false
set_option linter.all false
set_option maxRecDepth 100000
set_option maxHeartbeats 4000000
/- lists glued, whatever they are; a list of our own, times a number -/
namespace G
open PySem L2 PySem.Spec PyProof.Rows PySem.P PySem.SeqAt
section
variable {X : Cx}
def rCatS (K : PySem.W.Frag) : R2 := fun x y H Q => ∃ l b xs zs, x = .ref l ∧ y = .ref b ∧ SqL K H l xs ∧ SqL K H b zs ∧ xs.length + zs.length ≤ sizeLine ∧ ∀ p, H p = none → Q (.ref p) (upd H p (.lst (xs ++ zs)))
theorem op_catS : OpR X (binaryOp .Add) (rCatS X.K) := by
  intro pins s σ H x y v u Q I rx ry h
  obtain ⟨l, b, xs, zs, rfl, rfl, hH, hB, hz, q⟩ := h
  cases rx
  cases ry
  obtain ⟨its, r, ⟨⟨cls, dd, data, sl⟩, n, ho, hc, hdd, hd⟩, hl⟩ := I.list hH
  obtain ⟨its2, r2, ⟨⟨cls2, dd2, data2, sl2⟩, n2, ho2, hc2, hdd2, hd2⟩, hl2⟩ := I.list hB
  have l1 := r.length
  have l2 := r2.length
  simp only at hc hdd hd hc2 hdd2 hd2
  subst hc hdd hd hc2 hdd2 hd2
  have ea : its.toArray ++ its2.toArray = (its ++ its2).toArray := by simp
  refine concat_meets ⟨_, ho, rfl⟩ ⟨_, ho2, rfl⟩ noFill_list_add seq_list_add PySem.F.slot_list_add PySem.F.entry_list_add (PySem.F.args_list_add_2 _ _) (list_addW l b its.toArray its2.toArray n n2 none none sl sl2 (by simp; omega)) ⟨ho, ho2, ?_⟩
  rw [ea]
  exact ⟨.ref _, _, I.lnew (t' := s.toks) (r.append r2) (by rw [List.length_append]; omega), rfl, q _ I.fresh⟩
end
section
variable {X : Cx} {ρ ρ1 ρ2 : Env'} {a b : Expr} {pos : Pos} {xs ys : List PyData} {r1 r2 : R}
theorem dl_catS (hz : xs.length + ys.length ≤ sizeLine) (hq1 : RL ρ2 r1 xs) (hq2 : RL ρ2 r2 ys) (ha : DE X ρ a r1 ρ1) (hb : DE X ρ1 b r2 ρ2) : DL X ρ (.BinOp a .Add b pos) (xs ++ ys) ρ2 := fun F Z B H σ Q k q =>
  ⟨_, pe_op op_catS pe_s pe_s, DE.two ha hb k fun v1 v2 B2 H2 k2 x w1 w2 => by
    obtain ⟨p1, vs, e1, s1, t1⟩ := hq1.at k2 w1
    obtain ⟨p2, us, e2, s2, t2⟩ := hq2.at k2 w2
    have l1 := DpAll.length t1
    have l2 := DpAll.length t2
    exact ⟨p1, p2, vs, us, e1, e2, s1, s2, by rw [l1, l2]; exact hz, fun l hl => q l _ B2 _ (k2.loose hl _) x (k2.laid hl _) upd_same (G.DpAll.append t1 t2)⟩⟩
end
end G

set_option Elab.async false
set_option linter.all false
set_option maxRecDepth 100000
set_option maxHeartbeats 4000000
/- the draws of a script, with named cells, walked -/
namespace G
open PySem L2 PySem.Spec PyProof.Rows
/-! ### what they are -/
def mix : Int → List Int → Int
  | m, [] => m
  | m, c :: cs => mix ((m * 69069 + c * 31 + 5) % 2147483629) cs
def srcOf (ns : List Int) : Src := ⟨(ns.map fun c => (if c < 0 then -c else c)).reverse, 1, mix 11 ns, 0⟩
def drawR (left : Int) : List Int → Int × List Int
  | [] => (left, [])
  | c :: cs => if left < 2 then drawR c cs else (left, c :: cs)
def drawn (st : Src) : Src := { st with left := (drawR st.left st.cells.reverse).1, cells := (drawR st.left st.cells.reverse).2.reverse }
def stir (s : Src) : Int :=
  let m1 := (s.mixed + (s.turn + 1) * 104729) % 998244353
  (m1 * m1 + (s.turn + 1) * 17) % 2147483647
def pick (st : Src) (many : Int) : Int × Src :=
  if many < 2 then (0, st)
  else
    let s := drawn st
    if 1 < s.left then (s.left % many, { s with left := s.left / many })
    else ((stir s / 16) % many, { s with turn := s.turn + 1 })
theorem pick_in (st : Src) {many : Int} (h : 1 ≤ many) : 0 ≤ (pick st many).1 ∧ (pick st many).1 < many := by
  unfold pick
  dsimp only
  split
  · exact ⟨Int.le_refl 0, by show (0 : Int) < many; omega⟩
  · split
    · exact ⟨Int.emod_nonneg _ (by omega), Int.emod_lt_of_pos _ (by omega)⟩
    · exact ⟨Int.emod_nonneg _ (by omega), Int.emod_lt_of_pos _ (by omega)⟩
theorem mix_snoc : ∀ (m : Int) (cs : List Int) (c : Int), mix m (cs ++ [c]) = (mix m cs * 69069 + c * 31 + 5) % 2147483629
  | _, [], _ => rfl
  | m, d :: cs, c => mix_snoc _ cs c
def absD : PyData → PyData
  | .int c => .int (if c < 0 then -c else c)
  | x => x
def psPick (st : Src) (ds : List PyData) (d : PyData) (st' : Src) : Prop := ∃ many : Int, many < 1000000 ∧ ds = [.int many] ∧ d = .int (pick st many).1 ∧ st' = (pick st many).2
def psSrc (ds : List PyData) (st : Src) : Prop := ∃ ns : List Int, ns.length ≤ 63 ∧ ds = [.list (ns.map .int)] ∧ st = srcOf ns
abbrev nOpen : List Str := ["script", "stirred", "cell", "cells"]
theorem scOpen : FnScope nOpen ["script"] (defScope sOpen) := ⟨rfl, rfl, rfl, by decide +kernel, rfl, by decide +kernel, by decide +kernel⟩
abbrev nPickB : List Str := ["source", "most", "cells", "others", "lap", "stirred"]
theorem scPickB : FnScope nPickB ["source", "most"] (defScope sPickB) := ⟨rfl, rfl, rfl, by decide +kernel, rfl, by decide +kernel, by decide +kernel⟩
section
variable {P : Program} {w : World} {K : PySem.W.Frag} {mg : Str → Option Value} {base : Heap}
theorem ok_open {f : Addr} {fd : FuncData} (D : Df K mg "_law_source" sOpen f fd ["script"]) (T : Bt mg) : FnG P w K mg base 1 f fd ["script"] (spN K psSrc) := by
  refine fnN_of D.fn scOpen (fun ds d ⟨_, _, e, _⟩ => by rw [e]; rfl) ?_
  rintro cdv A outer s H E ds d hg hr ⟨ns, hl, rfl, rfl⟩
  refine dbs_cons (ds_set (i := 1) scOpen.nd de_int) ?_
  refine dbs_cons (ds_for PassesOwn.never rfl (di_list (nv 0)) (fun i => [.d (.list (ns.map .int)), .d (.int (mix 11 (ns.take i))), .un, .un]) (Wk.refl _) (fun i x hx => ?_) (ρ2 := [.d (.list (ns.map .int)), .d (.int (mix 11 ns)), .un, .un]) (by rw [List.length_map, List.take_length])) ?_
  · obtain ⟨c, hc, rfl⟩ : ∃ c, ns[i]? = some c ∧ x = .int c := by
      rw [List.getElem?_map] at hx
      cases e : ns[i]? with
      | none => rw [e] at hx; cases hx
      | some c => rw [e] at hx; exact ⟨c, rfl, (Option.some.inj hx).symm⟩
    have em : mix 11 (ns.take (i + 1)) = (mix 11 (ns.take i) * 69069 + c * 31 + 5) % 2147483629 := by
      rw [List.take_add_one, hc]
      exact mix_snoc _ _ _
    refine ⟨_, _, dg_name (i := 2) scOpen.nd, db_nx (ds_set (i := 1) scOpen.nd (de_mod (by decide) (de_intI T.int_ (de_add (de_add (de_mul (.inr (by decide)) (nv 1) de_int) (de_mul (.inr (by decide)) (nv 2) de_int)) de_int)) de_int)) ?_⟩
    rw [em]
    first | exact G.Wk.refl _ | (repeat (first | exact G.Wk.nil | apply G.Wk.cons | apply G.Wk.drop))
  · have e : (srcOf ns).cells.map PyData.int = ((ns.map PyData.int).map absD).reverse := by
      show ((ns.map fun c => (if c < 0 then -c else c)).reverse).map PyData.int = _
      rw [List.map_reverse, List.map_map, List.map_map]
      rfl
    refine dbs_cons (ds_setMap (i := 3) [("cell", 2)] absD rfl scOpen.nd (blkOk_by (N := nOpen) (sc := defScope sOpen) (by decide +kernel)) (di_list (nv 0)) (by intro j hj; cases hj with | head => rfl | tail _ h => cases h) (fun x hx => ?_) ?_) ?_
    · obtain ⟨c, _, rfl⟩ := List.mem_map.mp hx
      exact ⟨_, _, _, fun _ _ _ _ _ => dg_name (i := 2) scOpen.nd, fun _ _ _ _ _ => de_abs T.abs_ (nv 2), by simp, by first | exact G.Wk.refl _ | (repeat (first | exact G.Wk.nil | apply G.Wk.cons | apply G.Wk.drop))⟩
    · rw [List.length_map]
      exact Nat.le_trans hl (by decide)
    · refine dbs_ret (dsrc_disp (st := srcOf ns) (ρ1 := [.d (.list (ns.map .int)), .d (.int (mix 11 ns)), .un, .o (.lst ((ns.map PyData.int).map absD))]) ?_ de_int (nv 1) de_int)
      rw [e]
      exact dl_rev (.o (i := 3) rfl) (ow 3)
theorem ok_pickB {f : Addr} {fd : FuncData} (D : Df K mg "_law_pick" sPickB f fd ["source", "most"]) (T : Bt mg) : FnG P w K mg base 1 f fd ["source", "most"] (spS K psPick) := by
  refine fnS_of D.fn scPickB (fun st ds d st' ⟨_, _, e, _⟩ => by rw [e]; rfl) ?_
  rintro cdv A outer s H E a st ds d st' hg hr ⟨many, hm2, rfl, rfl, rfl⟩
  have hu : (A.deeper (envOfC "_law_pick" (defScope sPickB) s.heap.objs.size f cdv)).units + 100 < cLine := by have := hr.un; omega
  by_cases h2 : many < 2
  · have e : pick st many = (0, st) := by unfold pick; rw [if_pos h2]
    rw [e]
    exact ⟨_, rfl, db_ifT (dt_ltT h2 (nv 1) de_int) (db_one (ds_ret de_int))⟩
  have ep : pick st many = if 1 < (drawn st).left then ((drawn st).left % many, { drawn st with left := (drawn st).left / many }) else ((stir (drawn st) / 16) % many, { drawn st with turn := (drawn st).turn + 1 }) := by
    unfold pick
    rw [if_neg h2]
  have loop : ∀ (o : O), DB (cxOf CX0 P w K mg base nPickB "_law_pick" (defScope sPickB) f cdv A outer s H E).nox [.o (.src a (drawn st)), .d (.int many), .un, .un, .un, .un] (((defBody sPickB).tail).tail).tail o →
      DB (cxOf CX0 P w K mg base nPickB "_law_pick" (defScope sPickB) f cdv A outer s H E).nox [.o (.src a st), .d (.int many), .un, .un, .un, .un] (defBody sPickB) o := by
    intro o h
    refine db_ifF (dt_ltF h2 (nv 1) de_int) ?_
    refine db_split (i := 0) (j := 2) hu scPickB.nd (ow 0) (by decide) fun l => ?_
    refine db_cons (ds_while (ρ1 := [.o (.srd a l { st with left := (drawn st).left }), .d (.int many), .o (.lsA l (drawn st).cells), .un, .un, .un]) PassesOwn.never ?_) (db_join (i := 0) (j := 2) (sa := a) (l := l) (st := { st with left := (drawn st).left }) (xs := (drawn st).cells) h)
    clear h ep
    obtain ⟨cells, left, mixed, turn⟩ := st
    obtain ⟨rev, rfl⟩ : ∃ rev, cells = rev.reverse := ⟨cells.reverse, by simp⟩
    unfold drawn
    simp only [List.reverse_reverse]
    show Lp _ _ _ [.o (.srd a l ⟨rev.reverse, left, mixed, turn⟩), .d (.int many), .o (.lsA l rev.reverse), .un, .un, .un] _
    have gen : ∀ (cs0 : List Int) (rev : List Int) (left : Int), Lp (cxOf CX0 P w K mg base nPickB "_law_pick" (defScope sPickB) f cdv A outer s H E).nox (match (defBody sPickB).getD 2 (.Pass ⟨0, 0, 0, 0⟩) with | .While c _ _ _ => c | _ => .Constant .none 0 ⟨0, 0, 0, 0⟩)
        (match (defBody sPickB).getD 2 (.Pass ⟨0, 0, 0, 0⟩) with | .While _ b _ _ => b | _ => []) [.o (.srd a l ⟨cs0, left, mixed, turn⟩), .d (.int many), .o (.lsA l rev.reverse), .un, .un, .un] [.o (.srd a l ⟨cs0, (drawR left rev).1, mixed, turn⟩), .d (.int many), .o (.lsA l (drawR left rev).2.reverse), .un, .un, .un] := by
      intro cs0 rev
      induction rev with
      | nil =>
        intro left
        refine .stop (dt_is (DW.dt (dw_and (dt_lt (de_srdGet hu (fun _ => src_left) (ow 0)) de_int) (fun _ => dw_and1 (dt_gt (de_lenA T.len_ (ow 2)) de_int)) (fun _ => rfl))) ?_)
        simp
      | cons c rev ih =>
        intro left
        by_cases hl : left < 2
        · refine .step (ρ2 := [.o (.srd a l ⟨cs0, c, mixed, turn⟩), .d (.int many), .o (.lsA l rev.reverse), .un, .un, .un]) (dt_is (DW.dt (dw_and (dt_lt (de_srdGet hu (fun _ => src_left) (ow 0)) de_int) (fun _ => dw_and1 (dt_gt (de_lenA T.len_ (ow 2)) de_int)) (fun _ => rfl))) ?_)
            (.inl (db_one (ds_popA (i := 0) (j := 2) (st := ⟨cs0, left, mixed, turn⟩) (cs := rev.reverse) (n := c) hu (by decide) (ow 2) (ow 0) (by rw [List.reverse_cons]; rfl)))) (by first | exact G.Wk.refl _ | (repeat (first | exact G.Wk.nil | apply G.Wk.cons | apply G.Wk.drop))) ?_
          · simp [hl]
          · have := ih c
            unfold drawR
            rw [if_pos hl]
            exact this
        · unfold drawR
          rw [if_neg hl]
          refine .stop (dt_is (DW.dt (dw_and (dt_lt (de_srdGet hu (fun _ => src_left) (ow 0)) de_int) (fun _ => dw_and1 (dt_gt (de_lenA T.len_ (ow 2)) de_int)) (fun _ => rfl))) ?_)
          simp [hl]
    exact gen rev.reverse rev left
  generalize drawn st = s1 at ep loop
  rw [ep]
  by_cases hc : 1 < s1.left
  · rw [if_pos hc]
    refine ⟨[.o (.src a { s1 with left := s1.left / many }), .d (.int many), .un, .d (.int s1.left), .un, .un], rfl, loop _ ?_⟩
    refine db_cons (ds_set (i := 3) scPickB.nd (de_srcGet hu (fun _ => src_left) (ow 0))) ?_
    refine db_ifT (dt_is (dt_gt (nv 3) de_int) (decide_eq_true hc)) ?_
    refine db_cons (ds_srcSet (i := 0) (st' := { s1 with left := s1.left / many }) hu (fun _ => put_left) rfl (de_fdiv ⟨by omega, by omega⟩ (nv 3) (nv 1)) (ow 0)) ?_
    exact db_one (ds_ret (de_mod (by omega) (de_intI T.int_ (nv 3)) (nv 1)))
  · rw [if_neg hc]
    unfold stir
    generalize hm : (s1.mixed + (s1.turn + 1) * 104729) % 998244353 = m1
    dsimp only
    generalize hm' : (m1 * m1 + (s1.turn + 1) * 17) % 2147483647 = m2
    have m1b : 0 ≤ m1 ∧ m1 < 998244353 := by rw [← hm]; exact ⟨Int.emod_nonneg _ (by decide), Int.emod_lt_of_pos _ (by decide)⟩
    refine ⟨[.o (.src a { s1 with turn := s1.turn + 1 }), .d (.int many), .un, .d (.int s1.left), .d (.int (s1.turn + 1)), .d (.int m2)], rfl, loop _ ?_⟩
    refine db_cons (ds_set (i := 3) scPickB.nd (de_srcGet hu (fun _ => src_left) (ow 0))) ?_
    refine db_ifF (dt_is (dt_gt (nv 3) de_int) (decide_eq_false hc)) ?_
    refine db_cons (ds_srcSet (i := 0) (st' := { s1 with turn := s1.turn + 1 }) hu (fun _ => put_turn) rfl (de_add (de_srcGet hu (fun _ => src_turn) (ow 0)) de_int) (ow 0)) ?_
    refine db_at [.o (.src a { s1 with turn := s1.turn + 1 }), .d (.int many), .un, .d (.int s1.left), .un, .un] rfl ?_
    refine db_cons (ds_set (i := 4) scPickB.nd (de_srcGet hu (fun _ => src_turn) (ow 0))) ?_
    refine db_at [.o (.src a { s1 with turn := s1.turn + 1 }), .d (.int many), .un, .d (.int s1.left), .d (.int (s1.turn + 1)), .un] rfl ?_
    refine db_cons (ds_set (i := 5) (y := .int m1) scPickB.nd (de_is (de_mod (by decide) (de_intI T.int_ (de_add (de_srcGet hu (fun _ => src_mixed) (ow 0)) (de_mul (.inr (by decide)) (nv 4) de_int))) de_int) (by rw [hm]))) ?_
    refine db_at [.o (.src a { s1 with turn := s1.turn + 1 }), .d (.int many), .un, .d (.int s1.left), .d (.int (s1.turn + 1)), .d (.int m1)] rfl ?_
    refine db_cons (ds_set (i := 5) (y := .int m2) scPickB.nd (de_is (de_mod (by decide) (de_intI T.int_ (de_add (de_mul (i := m1) (j := m1) (.inl ⟨by omega, by omega⟩) (nv 5) (nv 5)) (de_mul (.inr (by decide)) (nv 4) de_int))) de_int) (by rw [hm']))) ?_
    refine db_at [.o (.src a { s1 with turn := s1.turn + 1 }), .d (.int many), .un, .d (.int s1.left), .d (.int (s1.turn + 1)), .d (.int m2)] rfl ?_
    exact db_one (ds_ret (de_mod (by omega) (de_intI T.int_ (de_fdiv ⟨by decide, by decide⟩ (nv 5) de_int)) (nv 1)))
end
end G

set_option Elab.async false
set_option linter.all false
set_option maxRecDepth 100000
set_option maxHeartbeats 4000000
/- a drawn web, walked -/
namespace G
open PySem L2 PySem.Spec PyProof.Rows
/-! ### what is drawn -/
def runS (many : Int) (s : Src) : Nat → List Int × Src
  | 0 => ([], s)
  | n + 1 => ((runS many s n).1 ++ [(pick (runS many s n).2 many).1], (pick (runS many s n).2 many).2)
theorem runS_len {many : Int} {s : Src} : ∀ n : Nat, (runS many s n).1.length = n
  | 0 => rfl
  | n + 1 => by
    unfold runS
    rw [List.length_append, runS_len n]; rfl
theorem runS_in {many : Int} (h : 1 ≤ many) {s : Src} : ∀ n : Nat, ∀ c ∈ (runS many s n).1, 0 ≤ c ∧ c < many
  | 0, c, hc => nomatch hc
  | n + 1, c, hc => by
    unfold runS at hc
    rcases List.mem_append.mp hc with q | q
    · exact runS_in h n c q
    · rw [List.mem_singleton.mp q]
      exact pick_in _ h
abbrev Ar := List (Int × Int) × Src
def roadL (r a b : Int) : List (Int × Int) := if r = 0 then [(a, b)] else if r = 1 then [(b, a)] else [(a, b), (b, a)]
def tieS (share both a b : Int) (x : Ar) : Ar :=
  if a < b then
    if (pick x.2 share).1 = 0 then
      if 0 < both then (x.1 ++ roadL (pick (pick x.2 share).2 3).1 a b, (pick (pick x.2 share).2 3).2)
      else (x.1 ++ roadL 2 a b, (pick x.2 share).2)
    else (x.1, (pick x.2 share).2)
  else x
def rowS (share both a : Int) (x : Ar) : Nat → Ar
  | 0 => x
  | m + 1 => tieS share both a m (rowS share both a x m)
def allS (share both : Int) (n : Nat) (x : Ar) : Nat → Ar
  | 0 => x
  | m + 1 => rowS share both m (allS share both n x m) n
theorem roadL_len (r a b : Int) : (roadL r a b).length ≤ 2 := by
  unfold roadL
  split
  · exact Nat.le_succ 1
  · split
    · exact Nat.le_succ 1
    · exact Nat.le_refl 2
theorem roadL_in {r a b : Int} {p : Int × Int} (h : p ∈ roadL r a b) : p = (a, b) ∨ p = (b, a) := by
  unfold roadL at h
  split at h
  · exact .inl (List.mem_singleton.mp h)
  · split at h
    · exact .inr (List.mem_singleton.mp h)
    · simpa using h
theorem tieS_len (share both a b : Int) (x : Ar) : (tieS share both a b x).1.length ≤ x.1.length + 2 := by
  unfold tieS
  split
  · split
    · split
      · show (List.length (_ ++ _)) ≤ _
        rw [List.length_append]
        have := roadL_len (pick (pick x.2 share).2 3).1 a b
        omega
      · show (List.length (_ ++ _)) ≤ _
        rw [List.length_append]
        have := roadL_len 2 a b
        omega
    · exact Nat.le_add_right _ 2
  · exact Nat.le_add_right _ 2
theorem rowS_len (share both a : Int) (x : Ar) : ∀ m : Nat, (rowS share both a x m).1.length ≤ x.1.length + 2 * m
  | 0 => Nat.le_refl _
  | m + 1 => by
    have h1 := rowS_len share both a x m
    have h2 := tieS_len share both a m (rowS share both a x m)
    show (tieS share both a m (rowS share both a x m)).1.length ≤ _
    omega
theorem allS_len (share both : Int) {n : Nat} (h : n ≤ 20) (x : Ar) : ∀ m : Nat, (allS share both n x m).1.length ≤ x.1.length + 40 * m
  | 0 => Nat.le_refl _
  | m + 1 => by
    have h1 := allS_len share both h x m
    have h2 := rowS_len share both m (allS share both n x m) n
    show (rowS share both m (allS share both n x m) n).1.length ≤ _
    omega
theorem tieS_in (n : Nat) {share both a b : Int} {x : Ar} (ha : 0 ≤ a ∧ a < n) (hb : 0 ≤ b ∧ b < n) (h : ∀ p ∈ x.1, (0 ≤ p.1 ∧ p.1 < n) ∧ 0 ≤ p.2 ∧ p.2 < n) : ∀ p ∈ (tieS share both a b x).1, (0 ≤ p.1 ∧ p.1 < n) ∧ 0 ≤ p.2 ∧ p.2 < n := by
  have key : ∀ r, ∀ p ∈ x.1 ++ roadL r a b, (0 ≤ p.1 ∧ p.1 < n) ∧ 0 ≤ p.2 ∧ p.2 < n := by
    intro r p hp
    rcases List.mem_append.mp hp with q | q
    · exact h p q
    · rcases roadL_in q with rfl | rfl
      · exact ⟨ha, hb⟩
      · exact ⟨hb, ha⟩
  unfold tieS
  split
  · split
    · split
      · exact key _
      · exact key _
    · exact h
  · exact h
theorem rowS_in {n : Nat} {share both a : Int} {x : Ar} (ha : 0 ≤ a ∧ a < n) (h : ∀ p ∈ x.1, (0 ≤ p.1 ∧ p.1 < n) ∧ 0 ≤ p.2 ∧ p.2 < n) : ∀ m : Nat, m ≤ n → ∀ p ∈ (rowS share both a x m).1, (0 ≤ p.1 ∧ p.1 < n) ∧ 0 ≤ p.2 ∧ p.2 < n
  | 0, _ => h
  | m + 1, hm => tieS_in n ha ⟨by omega, by omega⟩ (rowS_in ha h m (by omega))
theorem allS_in {n : Nat} {share both : Int} {x : Ar} (h : ∀ p ∈ x.1, (0 ≤ p.1 ∧ p.1 < n) ∧ 0 ≤ p.2 ∧ p.2 < n) : ∀ m : Nat, m ≤ n → ∀ p ∈ (allS share both n x m).1, (0 ≤ p.1 ∧ p.1 < n) ∧ 0 ≤ p.2 ∧ p.2 < n
  | 0, _ => h
  | m + 1, hm => rowS_in ⟨by omega, by omega⟩ (allS_in h m (by omega)) n (Nat.le_refl _)
def pD (l : List (Int × Int)) : List PyData := (l.map pK).map NestedKey.data
theorem pD_app (l m : List (Int × Int)) : pD (l ++ m) = pD l ++ pD m := by unfold pD; rw [List.map_append, List.map_append]
theorem pD_len (l : List (Int × Int)) : (pD l).length = l.length := by unfold pD; rw [List.length_map, List.length_map]
def srtP (l : List (Int × Int)) : List (Int × Int) := l.mergeSort fun p q => PySem.W.dataLe false id (pK p).data (pK q).data
theorem sort_pD (l : List (Int × Int)) : sortD (pD l) = pD (srtP l) := by
  unfold sortD pD srtP
  rw [List.map_map, List.map_map]
  exact (PySem.W.sort_maps (r := fun p q => PySem.W.dataLe false id (pK p).data (pK q).data) (s := PySem.W.dataLe false id) (fun p => (pK p).data) (l := l) fun _ _ _ _ => rfl).symm
theorem srtP_mem {l : List (Int × Int)} {p : Int × Int} : p ∈ srtP l ↔ p ∈ l := (List.mergeSort_perm _ _).mem_iff
theorem srtP_len (l : List (Int × Int)) : (srtP l).length = l.length := (List.mergeSort_perm _ _).length_eq
/-- the draws ahead of the arrows -/
structure Dw where
  n : Nat
  wide : Int
  share : Int
  both : Int
  col : List Int
  st : Src
def dwOf (most : Int) (s : Src) : Dw :=
  let p1 := pick s most
  let p2 := pick p1.2 3
  let p3 := pick p2.2 4
  let r := runS (1 + p2.1) p3.2 (1 + p1.1).toNat
  let p5 := pick r.2 3
  ⟨(1 + p1.1).toNat, 1 + p2.1, 2 + p3.1, p5.1, r.1, p5.2⟩
def webS (most : Int) (s : Src) : Wb × Src :=
  let d := dwOf most s
  let x := allS d.share d.both d.n ([], d.st) d.n
  (⟨d.n, d.col, srtP x.1⟩, x.2)
def psWeb (st : Src) (ds : List PyData) (d : PyData) (st' : Src) : Prop := ∃ most : Int, 1 ≤ most ∧ most ≤ 19 ∧ ds = [.int most] ∧ d = wbD (webS most st).1 ∧ st' = (webS most st).2
theorem at_road {r a b : Int} (h1 : 0 ≤ r) (h2 : r < 3) : atI [PyData.list (pD [(a, b)]), .list (pD [(b, a)]), .list (pD [(a, b), (b, a)])] r = some (.list (pD (roadL r a b))) := by
  have : r = 0 ∨ r = 1 ∨ r = 2 := by omega
  rcases this with rfl | rfl | rfl <;> rfl
end G

set_option Elab.async false
set_option linter.all false
set_option maxRecDepth 100000
set_option maxHeartbeats 4000000
/- data whose repr is short -/
namespace G
open PySem L2 PySem.Spec PyProof.Rows
structure Bd (m d : Nat) (x : PyData) : Prop where
  sh : x.showable = true
  dp : x.depth ≤ d
  ln : x.shown.length ≤ m
theorem Bd.mono {m d m' d' : Nat} {x : PyData} (h : Bd m d x) (h1 : m ≤ m') (h2 : d ≤ d') : Bd m' d' x := ⟨h.sh, Nat.le_trans h.dp h2, Nat.le_trans h.ln h1⟩
theorem bd_int {i : Int} (h0 : 0 ≤ i) (h1 : i < 10) : Bd 1 0 (.int i) := by
  refine ⟨?_, by simp [PyData.depth], ?_⟩
  · simp only [PyData.showable]
    have : i.natAbs < 10 := by omega
    have l : i.natAbs.log2 < 10 := by
      have := Nat.log2_le_self i.natAbs
      omega
    exact decide_eq_true (by omega)
  · simp only [PyData.shown]
    rw [← tl_len, digit_shown h0 h1]
    exact Nat.le_refl 1
theorem bd_none : Bd 4 0 .none := by
  refine ⟨by simp [PyData.showable], by simp [PyData.depth], ?_⟩
  simp only [PyData.shown]
  decide
theorem fold_len {m : Nat} {z : List Nat} : ∀ {ts : List Str}, (∀ t ∈ ts, t.length ≤ m) → (ts.foldr (fun t r => 44 :: 32 :: (tl t ++ r)) z).length ≤ ts.length * (m + 2) + z.length
  | [], _ => by simp
  | t :: ts, h => by
    have h1 := h t List.mem_cons_self
    have h2 := fold_len (m := m) (z := z) fun a ha => h a (List.mem_cons_of_mem _ ha)
    rw [List.foldr_cons]
    simp only [List.length_cons, List.length_append, tl_len]
    rw [Nat.add_mul]
    omega
theorem join_len {m : Nat} {ts : List Str} (h : ∀ t ∈ ts, t.length ≤ m) : (Str.join (Str.ofString ", ") ts).length ≤ ts.length * (m + 2) := by
  cases ts with
  | nil => exact Nat.zero_le _
  | cons t ts =>
    have e := join_tl t ts []
    rw [List.append_nil] at e
    rw [← tl_len, e, List.length_append, tl_len]
    have h1 := h t List.mem_cons_self
    have h2 := fold_len (m := m) (z := []) fun a ha => h a (List.mem_cons_of_mem t ha)
    simp only [List.length_cons, List.length_nil] at h2 ⊢
    rw [Nat.add_mul]
    omega
theorem bd_sh {xs : List PyData} (h : ∀ x ∈ xs, x.showable = true) : PyData.showableAll xs = true := by
  induction xs with
  | nil => simp [PyData.showableAll]
  | cons x xs ih =>
    simp only [PyData.showableAll, h x List.mem_cons_self, ih fun a ha => h a (List.mem_cons_of_mem _ ha)]
    rfl
theorem bd_dp {d : Nat} {xs : List PyData} (h : ∀ x ∈ xs, x.depth ≤ d) : PyData.depthAll xs ≤ d := by
  induction xs with
  | nil => simp [PyData.depthAll]
  | cons x xs ih =>
    have h1 := h x List.mem_cons_self
    have h2 := ih fun a ha => h a (List.mem_cons_of_mem _ ha)
    simp only [PyData.depthAll]
    omega
theorem bd_tup {m d : Nat} {xs : List PyData} (h : ∀ x ∈ xs, Bd m d x) : Bd (xs.length * (m + 2) + 3) (d + 1) (.tuple xs) := by
  refine ⟨?_, ?_, ?_⟩
  · simp only [PyData.showable]
    exact bd_sh fun x hx => (h x hx).sh
  · have := bd_dp fun x hx => (h x hx).dp
    simp only [PyData.depth]
    omega
  · have e : (PyData.tuple xs).shown = tupleText (xs.map fun k => k.shown) := by
      simp only [PyData.shown]
      rw [shownAll_eq_map]
    have j := join_len (m := m) (ts := xs.map fun k => k.shown) fun t ht => by
      obtain ⟨x, hx, rfl⟩ := List.mem_map.mp ht
      exact (h x hx).ln
    rw [List.length_map] at j
    rw [e, ← tl_len]
    unfold tupleText
    rw [tl_append, tl_append]
    have e1 : tl (Str.ofString "(") = [40] := by decide +kernel
    have e2 : tl (Str.ofString ")") = [41] := by decide +kernel
    have e3 : tl (Str.ofString ",)") = [44, 41] := by decide +kernel
    rw [e1]
    simp only [List.length_append, tl_len]
    split
    · rw [← tl_len (Str.ofString ",)"), e3]
      simp only [List.length_cons, List.length_nil]
      omega
    · rw [← tl_len (Str.ofString ")"), e2]
      simp only [List.length_cons, List.length_nil]
      omega
theorem Bd.all {m d : Nat} {x : PyData} (h : Bd m d x) (hm : m ≤ 1000000 := by decide) (hd : d ≤ 64 := by decide) : x.showable = true ∧ x.depth ≤ 64 ∧ x.shown.length ≤ sizeLine := ⟨h.sh, Nat.le_trans h.dp hd, Nat.le_trans h.ln (Nat.le_trans hm (by decide))⟩
end G

set_option Elab.async false
set_option linter.all false
set_option maxRecDepth 100000
set_option maxHeartbeats 4000000
/- *row in a tuple; dicts whose keys are texts; x, y = [..], [..] -/
namespace G
open PySem L2 PySem.Spec PyProof.Rows
/-! ### things once each, by their texts -/
def txt (k : NestedKey) : Str := k.data.shown
def leS (x y : Str) : Bool := decide (x.cps.toList ≤ y.cps.toList)
def leT (a b : NestedKey) : Bool := leS (txt a) (txt b)
def onceT (ks : List NestedKey) : List NestedKey := (ks.foldl addK []).mergeSort leT
theorem leS_trans (a b c : Str) (h1 : leS a b = true) (h2 : leS b c = true) : leS a c = true := by
  unfold leS at *
  exact decide_eq_true (List.le_trans (of_decide_eq_true h1) (of_decide_eq_true h2))
theorem leS_total (a b : Str) : (leS a b || leS b a) = true := by
  unfold leS
  rw [Bool.or_eq_true, decide_eq_true_iff, decide_eq_true_iff]
  exact List.le_total _ _
theorem leS_antisymm {a b : Str} (h1 : leS a b = true) (h2 : leS b a = true) : a = b := by
  unfold leS at *
  exact Str.ext' (Array.toList_inj.mp (List.le_antisymm (of_decide_eq_true h1) (of_decide_eq_true h2)))
theorem rising_le : ∀ {l : List Str} {p : Str}, risingS p l = true → ∀ x ∈ l, leS p x = true
  | [], _, _, _, h => nomatch h
  | y :: l, p, h, x, hx => by
    have h' : (!ltCps y.cps.toList p.cps.toList && risingS y l) = true := h
    rw [Bool.and_eq_true] at h'
    have hy : leS p y = true := by
      have q := h'.1
      rw [ltCps_eq] at q
      unfold leS
      refine decide_eq_true ?_
      have : ¬ y.cps.toList < p.cps.toList := by simpa using q
      exact this
    rcases List.mem_cons.mp hx with rfl | hx
    · exact hy
    · exact leS_trans _ _ _ hy (rising_le h'.2 x hx)
theorem rising_pair : ∀ {l : List Str} {p : Str}, risingS p l = true → (p :: l).Pairwise fun a b => leS a b = true
  | [], _, _ => by simp
  | y :: l, p, h => by
    have h' : (!ltCps y.cps.toList p.cps.toList && risingS y l) = true := h
    rw [Bool.and_eq_true] at h'
    exact List.pairwise_cons.mpr ⟨fun x hx => rising_le h x hx, rising_pair h'.2⟩
theorem sortedS_pair {l : List Str} (h : sortedS l = true) : l.Pairwise fun a b => leS a b = true := by
  cases l with
  | nil => simp
  | cons p l => exact rising_pair h
theorem sortedS_uniq {ks : List NestedKey} {ys : List Str} (hp : ys.Perm (ks.map txt)) (hs : sortedS ys = true) : ys = (ks.mergeSort leT).map txt := by
  refine List.Perm.eq_of_pairwise (le := fun a b => leS a b = true) (fun a b _ _ h1 h2 => leS_antisymm h1 h2) (sortedS_pair hs) ?_ (hp.trans ((List.mergeSort_perm ks leT).map txt).symm)
  have := List.pairwise_mergeSort (le := leT) (fun a b c => leS_trans (txt a) (txt b) (txt c)) (fun a b => leS_total (txt a) (txt b)) ks
  exact List.pairwise_map.mpr this
theorem mem_onceT {k : NestedKey} {ks : List NestedKey} : k ∈ onceT ks ↔ k ∈ ks := by
  unfold onceT
  rw [(List.mergeSort_perm _ _).mem_iff, mem_addAll]
  simp
theorem onceT_len (ks : List NestedKey) : (onceT ks).length ≤ ks.length := by
  unfold onceT
  rw [(List.mergeSort_perm _ _).length_eq]
  have : ∀ (l a : List NestedKey), (l.foldl addK a).length ≤ a.length + l.length := by
    intro l
    induction l with
    | nil => intro a; exact Nat.le_refl _
    | cons k l ih =>
      intro a
      rw [List.foldl_cons]
      have := ih (addK a k)
      have := addK_len (k := k) (ks := a)
      simp only [List.length_cons]
      omega
  simpa using this ks []
theorem onceT_ext {xs ys : List NestedKey} (hx : ∀ k ∈ xs, Sm k) (h : ∀ k, k ∈ xs ↔ k ∈ ys) : onceT xs = onceT ys := by
  have nd : ∀ l : List NestedKey, (l.foldl addK []).Nodup := fun l => addAll_nodup (by simp)
  have p : (onceT xs).Perm (onceT ys) := ((List.mergeSort_perm _ _).trans ((List.perm_ext_iff_of_nodup (nd xs) (nd ys)).mpr fun k => by rw [mem_addAll, mem_addAll, h])).trans (List.mergeSort_perm _ _).symm
  refine List.Perm.eq_of_pairwise (le := fun a b => leT a b = true) (fun a b h1 h2 l1 l2 => ?_) ?_ ?_ p
  · exact shown_inj (hx a (mem_onceT.mp h1)) (hx b ((h b).mpr (mem_onceT.mp h2))) (leS_antisymm l1 l2)
  · exact List.pairwise_mergeSort (le := leT) (fun a b c => leS_trans (txt a) (txt b) (txt c)) (fun a b => leS_total (txt a) (txt b)) _
  · exact List.pairwise_mergeSort (le := leT) (fun a b c => leS_trans (txt a) (txt b) (txt c)) (fun a b => leS_total (txt a) (txt b)) _
theorem onceT_iff {xs ys : List NestedKey} (hx : ∀ k ∈ xs, Sm k) : onceT xs = onceT ys ↔ ∀ k, k ∈ xs ↔ k ∈ ys :=
  ⟨fun h k => by rw [← mem_onceT, h, mem_onceT], onceT_ext hx⟩
/-- the dict of texts holds each thing once -/
theorem tab_keys : ∀ (ks acc : List NestedKey), (∀ k ∈ ks, Sm k) → (∀ k ∈ acc, Sm k) →
    (ks.map fun k => (txt k, k.data)).foldl (fun kvs p => putD kvs (.inr p.1) p.2) (acc.map fun k => ((.inr (txt k) : Key), k.data)) = (ks.foldl addK acc).map fun k => ((.inr (txt k) : Key), k.data)
  | [], _, _, _ => rfl
  | k :: ks, acc, h1, h2 => by
    have hk := h1 k List.mem_cons_self
    have e : putD (acc.map fun k => ((.inr (txt k) : Key), k.data)) (.inr (txt k)) k.data = (addK acc k).map fun k => ((.inr (txt k) : Key), k.data) := by
      unfold putD addK
      by_cases m : k ∈ acc
      · rw [if_pos m, if_pos (List.any_eq_true.mpr ⟨_, List.mem_map_of_mem m, by simp⟩), List.map_map]
        refine List.map_congr_left fun z hz => ?_
        show (if ((.inr (txt z) : Key)) = .inr (txt k) then ((.inr (txt z) : Key), k.data) else ((.inr (txt z) : Key), z.data)) = _
        by_cases e : ((.inr (txt z) : Key)) = .inr (txt k)
        · rw [if_pos e]
          have : z = k := shown_inj (h2 z hz) hk (Sum.inr.inj e)
          rw [this]
        · rw [if_neg e]
      · rw [if_neg m, if_neg ?_, List.map_append]
        · rfl
        · intro z
          obtain ⟨q, hq, e⟩ := List.any_eq_true.mp z
          obtain ⟨z', hz', rfl⟩ := List.mem_map.mp hq
          have e' := Sum.inr.inj (of_decide_eq_true e)
          exact m (shown_inj (h2 z' hz') hk e' ▸ hz')
    rw [List.map_cons, List.foldl_cons, List.foldl_cons]
    show List.foldl _ (putD _ (.inr (txt k)) k.data) _ = _
    rw [e]
    exact tab_keys ks (addK acc k) (fun a ha => h1 a (List.mem_cons_of_mem _ ha)) fun a ha => (mem_addK.mp ha).elim (h2 a) fun e => e ▸ hk
theorem tab_once {ks : List NestedKey} (h : ∀ k ∈ ks, Sm k) : tabL (ks.map fun k => (txt k, k.data)) = (ks.foldl addK []).map fun k => ((.inr (txt k) : Key), k.data) := tab_keys ks [] h (fun _ z => nomatch z)
theorem tab_nodup {ks : List NestedKey} (h : ∀ k ∈ ks, Sm k) : (((ks.foldl addK []).map fun k => ((.inr (txt k) : Key), k.data)).map (·.1)).Nodup := by
  rw [List.map_map]
  have sm : ∀ z ∈ ks.foldl addK [], Sm z := fun z hz => h z (by simpa using mem_addAll.mp hz)
  have nd : (ks.foldl addK []).Nodup := addAll_nodup (by simp)
  refine List.pairwise_map.mpr (List.Pairwise.imp_of_mem (fun {a b} ha hb ne e => ne ?_) nd)
  exact shown_inj (sm a ha) (sm b hb) (Sum.inr.inj e)
end G

set_option Elab.async false
set_option linter.all false
set_option maxRecDepth 100000
set_option maxHeartbeats 4000000
/- reprs of webs, rows and looks are short -/
namespace G
open PySem L2 PySem.Spec PyProof.Rows
/-- a web of digits -/
structure Wb.Dig (W : Wb) : Prop where
  ok : W.Ok
  n9 : W.n ≤ 9
  col : ∀ c ∈ W.col, 0 ≤ c ∧ c < 10
  arr : ∀ p ∈ W.arr, (0 ≤ p.1 ∧ p.1 < 10) ∧ 0 ≤ p.2 ∧ p.2 < 10
  al : W.arr.length ≤ 800
theorem bd_pair {p : Int × Int} (h : (0 ≤ p.1 ∧ p.1 < 10) ∧ 0 ≤ p.2 ∧ p.2 < 10) : Bd 9 1 (pK p).data := by
  have e : (pK p).data = .tuple [.int p.1, .int p.2] := rfl
  rw [e]
  refine (bd_tup (m := 1) (d := 0) fun x hx => ?_).mono (by simp) (Nat.le_refl _)
  rcases List.mem_cons.mp hx with rfl | hx
  · exact bd_int h.1.1 h.1.2
  · rw [List.mem_singleton.mp hx]
    exact bd_int h.2.1 h.2.2
theorem bd_ints {l : List Int} (h : ∀ c ∈ l, 0 ≤ c ∧ c < 10) : Bd (l.length * 3 + 3) 1 (.tuple (l.map .int)) := by
  have := bd_tup (m := 1) (d := 0) (xs := l.map .int) fun x hx => by
    obtain ⟨c, hc, rfl⟩ := List.mem_map.mp hx
    exact bd_int (h c hc).1 (h c hc).2
  rw [List.length_map] at this
  exact this
theorem bd_three {m d : Nat} {a b c : PyData} (h1 : Bd m d a) (h2 : Bd m d b) (h3 : Bd m d c) : Bd (3 * (m + 2) + 3) (d + 1) (.tuple [a, b, c]) := bd_tup fun x hx => by
  rcases List.mem_cons.mp hx with rfl | hx
  · exact h1
  rcases List.mem_cons.mp hx with rfl | hx
  · exact h2
  · rw [List.mem_singleton.mp hx]; exact h3
theorem bd_web {W : Wb} (h : W.Dig) : Bd 30000 3 (wbD W) := by
  have n9 := h.n9
  have lc := h.ok.lc
  have al := h.al
  refine (bd_three (m := 8803) (d := 2) ((bd_int (by omega) (by omega)).mono (by omega) (by omega)) ((bd_ints h.col).mono (by omega) (by omega)) ?_).mono (by omega) (by omega)
  have := bd_tup (m := 9) (d := 1) (xs := (W.arr.map pK).map NestedKey.data) fun x hx => by
    obtain ⟨k, hk, rfl⟩ := List.mem_map.mp hx
    obtain ⟨p, hp, rfl⟩ := List.mem_map.mp hk
    exact bd_pair (h.arr p hp)
  rw [List.length_map, List.length_map] at this
  exact this.mono (by omega) (Nat.le_refl _)
end G

set_option Elab.async false
set_option linter.all false
set_option maxRecDepth 100000
set_option maxHeartbeats 4000000
/- drawn orders, walked -/
namespace G
open PySem L2 PySem.Spec PyProof.Rows
/-! ### a drawn order -/
def anyRun {α : Type} (xs : List α) (s : Src) : Nat → List α × List α × Src
  | 0 => ([], xs, s)
  | n + 1 => ((anyRun xs s n).1 ++ ((anyRun xs s n).2.1[(pick (anyRun xs s n).2.2 (anyRun xs s n).2.1.length).1.toNat]?).toList, (anyRun xs s n).2.1.eraseIdx (pick (anyRun xs s n).2.2 (anyRun xs s n).2.1.length).1.toNat, (pick (anyRun xs s n).2.2 (anyRun xs s n).2.1.length).2)
theorem erase_map {α β : Type} (f : α → β) : ∀ (l : List α) (k : Nat), (l.map f).eraseIdx k = (l.eraseIdx k).map f
  | [], _ => rfl
  | _ :: _, 0 => rfl
  | a :: l, k + 1 => by
    show f a :: (l.map f).eraseIdx k = f a :: (l.eraseIdx k).map f
    rw [erase_map f l k]
theorem anyRun_map {α β : Type} (f : α → β) (xs : List α) (s : Src) : ∀ n : Nat, anyRun (xs.map f) s n = ((anyRun xs s n).1.map f, (anyRun xs s n).2.1.map f, (anyRun xs s n).2.2)
  | 0 => rfl
  | n + 1 => by
    unfold anyRun
    rw [anyRun_map f xs s n]
    dsimp only
    rw [List.length_map, List.getElem?_map, List.map_append, erase_map]
    congr 2
    cases (anyRun xs s n).2.1[(pick (anyRun xs s n).2.2 (anyRun xs s n).2.1.length).1.toNat]? <;> rfl
theorem anyRun_len {α : Type} (xs : List α) (s : Src) : ∀ n : Nat, n ≤ xs.length → (anyRun xs s n).2.1.length = xs.length - n
  | 0, _ => rfl
  | n + 1, h => by
    have ih := anyRun_len xs s n (by omega)
    have q := pick_in (anyRun xs s n).2.2 (many := ((anyRun xs s n).2.1.length : Int)) (by omega)
    unfold anyRun
    dsimp only
    rw [List.length_eraseIdx_of_lt (by omega)]
    omega
theorem erase_perm {α : Type} : ∀ {l : List α} {k : Nat} {x : α}, l[k]? = some x → (l.eraseIdx k ++ [x]).Perm l
  | [], _, _, h => by simp at h
  | a :: l, 0, x, h => by
    simp only [List.getElem?_cons_zero, Option.some.injEq] at h
    subst h
    show (l ++ [a]).Perm (a :: l)
    exact List.perm_append_comm (l₁ := l) (l₂ := [a])
  | a :: l, k + 1, x, h => by
    simp only [List.getElem?_cons_succ] at h
    exact (erase_perm h).cons a
theorem anyRun_perm {α : Type} (xs : List α) (s : Src) : ∀ n : Nat, n ≤ xs.length → ((anyRun xs s n).1 ++ (anyRun xs s n).2.1).Perm xs
  | 0, _ => .refl _
  | n + 1, h => by
    have ih := anyRun_perm xs s n (by omega)
    have hl := anyRun_len xs s n (by omega)
    have q := pick_in (anyRun xs s n).2.2 (many := ((anyRun xs s n).2.1.length : Int)) (by omega)
    unfold anyRun
    dsimp only
    generalize (pick (anyRun xs s n).2.2 (anyRun xs s n).2.1.length).1 = k at q ⊢
    have hk : k.toNat < (anyRun xs s n).2.1.length := by omega
    rw [List.getElem?_eq_getElem hk]
    refine .trans ?_ ih
    rw [List.append_assoc]
    refine .append_left _ ?_
    exact .trans List.perm_append_comm (erase_perm (List.getElem?_eq_getElem hk))
/-- the order drawn, and what is left of the source -/
def anyS {α : Type} (xs : List α) (s : Src) : List α × Src := ((anyRun xs s xs.length).1, (anyRun xs s xs.length).2.2)
theorem anyS_perm {α : Type} (xs : List α) (s : Src) : (anyS xs s).1.Perm xs := by
  have h := anyRun_perm xs s xs.length (Nat.le_refl _)
  have l := anyRun_len xs s xs.length (Nat.le_refl _)
  rw [Nat.sub_self] at l
  rw [List.eq_nil_of_length_eq_zero l, List.append_nil] at h
  exact h
theorem anyS_map {α β : Type} (f : α → β) (xs : List α) (s : Src) : anyS (xs.map f) s = ((anyS xs s).1.map f, (anyS xs s).2) := by
  unfold anyS
  rw [List.length_map, anyRun_map]
section
variable {P : Program} {w : World} {K : PySem.W.Frag} {mg : Str → Option Value} {base : Heap}
end
end G

set_option Elab.async false
set_option linter.all false
set_option maxRecDepth 100000
set_option maxHeartbeats 4000000
namespace G
open PySem L2 PySem.Spec PyProof.Rows
theorem at_ints {l : List Int} {x : Int} (h1 : 0 ≤ x) (h2 : x < l.length) : atI (l.map PyData.int) x = some (.int (l.getD x.toNat 0)) := by
  have hi : x.toNat < l.length := by omega
  unfold atI
  have : ixN (l.map PyData.int).length x = some x.toNat := by
    unfold ixN
    rw [List.length_map]
    simp [h1, h2]
  rw [this]
  show (l.map PyData.int)[x.toNat]? = _
  rw [List.getElem?_map, List.getD_eq_getElem?_getD, List.getElem?_eq_getElem hi]
  rfl
theorem ix_pos {n : Nat} {x : Int} (h1 : 0 ≤ x) (h2 : x < n) : ixN n x = some x.toNat := by
  unfold ixN
  simp [h1, h2]
end G

set_option Elab.async false
set_option linter.all false
set_option maxRecDepth 100000
set_option maxHeartbeats 4000000
/- webs by other names, walked -/
namespace G
open PySem L2 PySem.Spec PyProof.Rows
section
variable {X : Cx} {ρ ρ1 ρ2 : Env'} {tg a b e : Expr} {pos p p0 p1 p2 p3 : Pos} {W : Wb} {k0 k1 k2} {r : R}
/-- tuple(sorted(e)), e a list of pairs -/
theorem de_sortP {l : List (Int × Int)} (hu : X.A.units + 100 < cLine) (hq : RL ρ1 r (pD l)) (mt : X.mg "tuple" = none) (ms : X.mg "sorted" = none) (h : DE X ρ e r ρ1) (hg : Gl X "tuple" := by rfl) (hg2 : Gl X "sorted" := by rfl)
    (he : starEach [e] X.env = (false, eval e X.env) :: starEach [] X.env := by rfl) (hp : (backTo p3 (starEach [] X.env)).any (·.1) = false := by rfl)
    (he2 : starEach [.Call (.Name "sorted" p2) [e] [] p3] X.env = (false, eval (.Call (.Name "sorted" p2) [e] [] p3) X.env) :: starEach [] X.env := by rfl) (hp2 : (backTo pos (starEach [] X.env)).any (·.1) = false := by rfl) :
    DE X ρ (.Call (.Name "tuple" p) [.Call (.Name "sorted" p2) [e] [] p3] [] pos) (.d (.tuple (pD (srtP l)))) ρ1 := by
  have kin := kin_pairs l
  refine de_tupL .d mt (DL.de (dl_is (sort_pD l) (dl_sorted hu (fun x hx y hy => ?_) (.inl fun d hd => ?_) (fun d hd => ?_) hq ms h hg2 he hp))) hg he2 hp2
  · obtain ⟨k, hk, rfl⟩ := List.mem_map.mp hx
    obtain ⟨k', hk', rfl⟩ := List.mem_map.mp hy
    exact kin.al k hk k' hk'
  · obtain ⟨k, hk, rfl⟩ := List.mem_map.mp hd
    obtain ⟨p, _, rfl⟩ := List.mem_map.mp hk
    exact ⟨_, _, rfl⟩
  · obtain ⟨k, hk, rfl⟩ := List.mem_map.mp hd
    rw [nk_depth]
    exact Nat.le_trans (kin.dep k hk) (by decide)
def prD (q : Int × Int) : PyData := .tuple [.int q.1, .int q.2]
theorem pD_eq (l : List (Int × Int)) : pD l = l.map prD := by
  unfold pD
  rw [List.map_map]
  exact List.map_congr_left fun _ _ => rfl
/-- a web's arrows, one by one -/
theorem di_arr (h : DE X ρ e (.d (wbD W)) ρ1) : DI X ρ tg (.Subscript e (.Constant (.int 2) k0 p0) pos) (W.arr.map prD) ρ1 := by
  rw [← pD_eq]
  exact di_tup (de_w2 h)
end
end G

set_option Elab.async false
set_option linter.all false
set_option maxRecDepth 100000
set_option maxHeartbeats 4000000
/- eyes and types of rows; rows kept for so many turns, by the game: mathematics -/
namespace G
open PySem PySem.Spec PySem.W PyProof.Rows
/-! ### pairs of places -/
def prow (p : Nat → Nat → Bool) (m i : Nat) : List (Int × Int) := ((List.range m).filter (p i)).map fun (j : Nat) => ((i : Int), (j : Int))
def pairsOf (p : Nat → Nat → Bool) (n m : Nat) : List (Int × Int) := (List.range n).flatMap (prow p m)
theorem prow_succ (p : Nat → Nat → Bool) (m i : Nat) : prow p (m + 1) i = prow p m i ++ (if p i m = true then [((i : Int), (m : Int))] else []) := by
  unfold prow
  rw [List.range_succ, List.filter_append, List.map_append]
  congr 1
  rw [List.filter_cons, List.filter_nil]
  split <;> rfl
theorem pairsOf_succ (p : Nat → Nat → Bool) (n m : Nat) : pairsOf p (n + 1) m = pairsOf p n m ++ prow p m n := by
  unfold pairsOf
  rw [List.range_succ, List.flatMap_append]
  simp
theorem mem_prow {p : Nat → Nat → Bool} {m i : Nat} {q : Int × Int} : q ∈ prow p m i ↔ ∃ j, j < m ∧ p i j = true ∧ q = ((i : Int), (j : Int)) := by
  unfold prow
  rw [List.mem_map]
  constructor
  · rintro ⟨j, hj, rfl⟩
    obtain ⟨h1, h2⟩ := List.mem_filter.mp hj
    exact ⟨j, List.mem_range.mp h1, h2, rfl⟩
  · rintro ⟨j, h1, h2, rfl⟩
    exact ⟨j, List.mem_filter.mpr ⟨List.mem_range.mpr h1, h2⟩, rfl⟩
theorem mem_pairsOf {p : Nat → Nat → Bool} {n m : Nat} {q : Int × Int} : q ∈ pairsOf p n m ↔ ∃ i j, i < n ∧ j < m ∧ p i j = true ∧ q = ((i : Int), (j : Int)) := by
  unfold pairsOf
  rw [List.mem_flatMap]
  constructor
  · rintro ⟨i, hi, h⟩
    obtain ⟨j, h1, h2, h3⟩ := mem_prow.mp h
    exact ⟨i, j, List.mem_range.mp hi, h1, h2, h3⟩
  · rintro ⟨i, j, h1, h2, h3, h4⟩
    exact ⟨i, List.mem_range.mpr h1, mem_prow.mpr ⟨j, h2, h3, h4⟩⟩
theorem pairsOf_iff {p q : Nat → Nat → Bool} {n m : Nat} : pairsOf p n m = pairsOf q n m ↔ ∀ i j, i < n → j < m → p i j = q i j := by
  constructor
  · intro h i j hi hj
    have e : ∀ p q : Nat → Nat → Bool, pairsOf p n m = pairsOf q n m → p i j = true → q i j = true := by
      intro p q h hp
      have : ((i : Int), (j : Int)) ∈ pairsOf q n m := h ▸ mem_pairsOf.mpr ⟨i, j, hi, hj, hp, rfl⟩
      obtain ⟨i', j', _, _, h3, h4⟩ := mem_pairsOf.mp this
      injection h4 with h5 h6
      have : i = i' := by omega
      have : j = j' := by omega
      subst i' j'
      exact h3
    rw [Bool.eq_iff_iff]
    exact ⟨e p q h, e q p h.symm⟩
  · intro h
    unfold pairsOf
    have : ∀ i ∈ List.range n, prow p m i = prow q m i := fun i hi => by
      unfold prow
      congr 1
      exact List.filter_congr fun j hj => h i j (List.mem_range.mp hi) (List.mem_range.mp hj)
    rw [List.flatMap_def, List.flatMap_def, List.map_congr_left this]
theorem prow_len (p : Nat → Nat → Bool) (m i : Nat) : (prow p m i).length ≤ m := by
  unfold prow
  rw [List.length_map]
  exact Nat.le_trans (List.length_filter_le _ _) (by rw [List.length_range]; omega)
theorem pairsOf_len (p : Nat → Nat → Bool) (m : Nat) : ∀ n : Nat, (pairsOf p n m).length ≤ n * m
  | 0 => by simp [pairsOf]
  | n + 1 => by
    rw [pairsOf_succ, List.length_append, Nat.succ_mul]
    have := pairsOf_len p m n
    have := prow_len p m n
    omega
/-! ### eyes -/
def gAt (l : List Int) (i : Nat) : Int := l.getD i 0
def sameL (a : List Int) : List (Int × Int) := pairsOf (fun i j => decide (i < j) && decide (gAt a i = gAt a j)) a.length a.length
def ledL (W : Wb) (a : List Int) : List (Int × Int) := pairsOf (fun i j => decide ((gAt a i, gAt a j) ∈ W.arr)) a.length a.length
def prsK (l : List (Int × Int)) : NestedKey := .tup (l.map pK)
def numsT (l : List Int) : NestedKey := .tup (l.map .num)
def eyeK (W : Wb) (a : List Int) : NestedKey := .tup [numsT (a.map (colAt W)), prsK (sameL a), prsK (ledL W a)]
/-- the same for the eye -/
def sameB (W : Wb) (a : List Int) (V : Wb) (b : List Int) : Bool := (List.range a.length).all fun i => decide (colAt W (gAt a i) = colAt V (gAt b i)) && (List.range a.length).all fun j => (decide (gAt a i = gAt a j) == decide (gAt b i = gAt b j)) && (decide ((gAt a i, gAt a j) ∈ W.arr) == decide ((gAt b i, gAt b j) ∈ V.arr))
theorem sameB_iff {W V : Wb} {a b : List Int} : sameB W a V b = true ↔ ∀ i, i < a.length → colAt W (gAt a i) = colAt V (gAt b i) ∧ ∀ j, j < a.length → (gAt a i = gAt a j ↔ gAt b i = gAt b j) ∧ ((gAt a i, gAt a j) ∈ W.arr ↔ (gAt b i, gAt b j) ∈ V.arr) := by
  unfold sameB
  simp only [List.all_eq_true, List.mem_range, Bool.and_eq_true, decide_eq_true_iff, beq_iff_eq, decide_eq_decide]
theorem prsK_inj {l m : List (Int × Int)} (h : prsK l = prsK m) : l = m := (List.map_inj_right (fun _ _ e => pK_inj e)).mp (NestedKey.tup.inj h)
theorem numsT_inj {l m : List Int} (h : numsT l = numsT m) : l = m := (List.map_inj_right (fun _ _ e => NestedKey.num.inj e)).mp (NestedKey.tup.inj h)
theorem gAt_map (f : Int → Int) (a : List Int) {i : Nat} (h : i < a.length) : (a.map f)[i]? = some (f (gAt a i)) := by
  rw [List.getElem?_map, List.getElem?_eq_getElem h]
  unfold gAt
  rw [List.getD_eq_getElem?_getD, List.getElem?_eq_getElem h]; rfl
theorem eye_iff {W V : Wb} {a b : List Int} (hl : a.length = b.length) : eyeK W a = eyeK V b ↔ sameB W a V b = true := by
  rw [sameB_iff]
  constructor
  · intro h
    have e := NestedKey.tup.inj h
    injection e with e1 e
    injection e with e2 e
    injection e with e3 _
    have e1 := numsT_inj e1
    have e2 := prsK_inj e2
    have e3 := prsK_inj e3
    unfold sameL at e2
    unfold ledL at e3
    rw [← hl] at e2 e3
    have e2 := pairsOf_iff.mp e2
    have e3 := pairsOf_iff.mp e3
    intro i hi
    refine ⟨?_, fun j hj => ⟨?_, decide_eq_decide.mp (e3 i j hi hj)⟩⟩
    · have : (a.map (colAt W))[i]? = (b.map (colAt V))[i]? := by rw [e1]
      rw [gAt_map _ _ hi, gAt_map _ _ (by omega)] at this
      exact Option.some.inj this
    · rcases Nat.lt_trichotomy i j with c | c | c
      · have := e2 i j hi hj
        rw [decide_eq_true c, Bool.true_and, Bool.true_and] at this
        exact decide_eq_decide.mp this
      · subst c; simp
      · have := e2 j i hj hi
        rw [decide_eq_true c, Bool.true_and, Bool.true_and] at this
        have := decide_eq_decide.mp this
        exact ⟨fun e => (this.mp e.symm).symm, fun e => (this.mpr e.symm).symm⟩
  · intro h
    unfold eyeK
    have e1 : a.map (colAt W) = b.map (colAt V) := by
      refine List.ext_getElem? fun i => ?_
      by_cases hi : i < a.length
      · rw [gAt_map _ _ hi, gAt_map _ _ (by omega), (h i hi).1]
      · rw [List.getElem?_eq_none (by rw [List.length_map]; omega), List.getElem?_eq_none (by rw [List.length_map]; omega)]
    have e2 : sameL a = sameL b := by
      unfold sameL
      rw [← hl]
      refine pairsOf_iff.mpr fun i j hi hj => ?_
      rw [decide_eq_decide.mpr ((h i hi).2 j hj).1]
    have e3 : ledL W a = ledL V b := by
      unfold ledL
      rw [← hl]
      exact pairsOf_iff.mpr fun i j hi hj => decide_eq_decide.mpr ((h i hi).2 j hj).2
    rw [e1, e2, e3]
/-! ### the game -/
def keptB (W V : Wb) : Nat → List Int → List Int → Bool
  | 0, a, b => sameB W a V b
  | r + 1, a, b => sameB W a V b && (((names W.n).all fun x => (names V.n).any fun y => keptB W V r (a ++ [x]) (b ++ [y])) && (names V.n).all fun y => (names W.n).any fun x => keptB W V r (a ++ [x]) (b ++ [y]))
theorem kept_same {W V : Wb} {r : Nat} {a b : List Int} (h : keptB W V r a b = true) : sameB W a V b = true := by
  cases r with
  | zero => exact h
  | succ r => rw [keptB, Bool.and_eq_true] at h; exact h.1
theorem kept_succ {W V : Wb} {r : Nat} {a b : List Int} : keptB W V (r + 1) a b = true ↔ sameB W a V b = true ∧ (∀ x ∈ names W.n, ∃ y ∈ names V.n, keptB W V r (a ++ [x]) (b ++ [y]) = true) ∧ ∀ y ∈ names V.n, ∃ x ∈ names W.n, keptB W V r (a ++ [x]) (b ++ [y]) = true := by
  rw [keptB, Bool.and_eq_true, Bool.and_eq_true, List.all_eq_true, List.all_eq_true]
  simp only [List.any_eq_true]
theorem kept_less {W V : Wb} : ∀ {r : Nat} {a b : List Int}, keptB W V (r + 1) a b = true → keptB W V r a b = true
  | 0, a, b, h => kept_same h
  | r + 1, a, b, h => by
    obtain ⟨h1, h2, h3⟩ := kept_succ.mp h
    exact kept_succ.mpr ⟨h1, fun x hx => let ⟨y, hy, q⟩ := h2 x hx; ⟨y, hy, kept_less q⟩, fun y hy => let ⟨x, hx, q⟩ := h3 y hy; ⟨x, hx, kept_less q⟩⟩
theorem kept_le {W V : Wb} {a b : List Int} {r k : Nat} (h : keptB W V (r + k) a b = true) : keptB W V r a b = true := by
  induction k with
  | zero => exact h
  | succ k ih => exact ih (kept_less h)
/-! ### types -/
def tyR (W : Wb) : Nat → List Int → NestedKey
  | 0, a => .tup [eyeK W a, .tup []]
  | r + 1, a => .tup [eyeK W a, .tup (onceT ((names W.n).map fun x => tyR W r (a ++ [x])))]
/-- webs of digits -/
structure Dg (W : Wb) : Prop where
  ok : W.Ok
  n9 : W.n ≤ 9
  col : ∀ c ∈ W.col, 0 ≤ c ∧ c < 10
theorem col_dg {W : Wb} (h : Dg W) (x : Int) : 0 ≤ colAt W x ∧ colAt W x < 10 := by
  unfold colAt
  rw [List.getD_eq_getElem?_getD]
  cases e : W.col[x.toNat]? with
  | none => exact ⟨by decide, by decide⟩
  | some c => exact h.col c (List.mem_of_getElem? e)
theorem sm_nums {l : List Int} (h : ∀ c ∈ l, 0 ≤ c ∧ c < 10) : Sm (numsT l) := .tup fun k hk => by
  obtain ⟨c, hc, rfl⟩ := List.mem_map.mp hk
  exact .num (h c hc).1 (h c hc).2
theorem sm_prs {p : Nat → Nat → Bool} {n : Nat} (h : n ≤ 10) : Sm (prsK (pairsOf p n n)) := .tup fun k hk => by
  obtain ⟨q, hq, rfl⟩ := List.mem_map.mp hk
  obtain ⟨i, j, hi, hj, _, rfl⟩ := mem_pairsOf.mp hq
  exact .tup fun k hk => by
    simp only [List.mem_cons, List.not_mem_nil, or_false] at hk
    rcases hk with rfl | rfl
    · exact .num (by omega) (by omega)
    · exact .num (by omega) (by omega)
theorem sm_two {a b : NestedKey} (ha : Sm a) (hb : Sm b) : Sm (.tup [a, b]) := .tup fun k hk => by
  simp only [List.mem_cons, List.not_mem_nil, or_false] at hk
  rcases hk with rfl | rfl
  · exact ha
  · exact hb
theorem sm_eye {W : Wb} (h : Dg W) {a : List Int} (hl : a.length ≤ 10) : Sm (eyeK W a) := .tup fun k hk => by
  simp only [List.mem_cons, List.not_mem_nil, or_false] at hk
  rcases hk with rfl | rfl | rfl
  · exact sm_nums fun c hc => by
      obtain ⟨x, _, rfl⟩ := List.mem_map.mp hc
      exact col_dg h x
  · exact sm_prs hl
  · exact sm_prs hl
theorem sm_tyR {W : Wb} (h : Dg W) : ∀ (r : Nat) (a : List Int), a.length + r ≤ 10 → Sm (tyR W r a)
  | 0, a, hl => sm_two (sm_eye h (by omega)) (.tup fun _ z => nomatch z)
  | r + 1, a, hl => sm_two (sm_eye h (by omega)) (.tup fun k hk => by
      obtain ⟨x, _, rfl⟩ := List.mem_map.mp (mem_onceT.mp hk)
      exact sm_tyR h r _ (by rw [List.length_append]; simp only [List.length_cons, List.length_nil]; omega))
/-- types are one exactly if rows are kept -/
theorem ty_kept {W V : Wb} (hW : Dg W) (hV : Dg V) : ∀ (r : Nat) (a b : List Int), a.length = b.length → a.length + r ≤ 10 → (tyR W r a = tyR V r b ↔ keptB W V r a b = true)
  | 0, a, b, hl, _ => by
    unfold tyR keptB
    rw [← eye_iff hl]
    constructor
    · intro h
      injection NestedKey.tup.inj h
    · intro h; rw [h]
  | r + 1, a, b, hl, h10 => by
    have sm : ∀ (U : Wb) (_ : Dg U) (c : List Int), c.length = a.length → ∀ k ∈ (names U.n).map (fun x => tyR U r (c ++ [x])), Sm k := fun U hU c hc k hk => by
      obtain ⟨x, _, rfl⟩ := List.mem_map.mp hk
      exact sm_tyR hU r _ (by rw [List.length_append]; simp only [List.length_cons, List.length_nil]; omega)
    have ih : ∀ x y, tyR W r (a ++ [x]) = tyR V r (b ++ [y]) ↔ keptB W V r (a ++ [x]) (b ++ [y]) = true := fun x y => ty_kept hW hV r _ _ (by simp [hl]) (by rw [List.length_append]; simp only [List.length_cons, List.length_nil]; omega)
    rw [kept_succ, ← eye_iff hl]
    unfold tyR
    constructor
    · intro h
      have e := NestedKey.tup.inj h
      injection e with e1 e
      injection e with e2 _
      have e2 := (onceT_iff (sm W hW a rfl)).mp (NestedKey.tup.inj e2)
      refine ⟨e1, fun x hx => ?_, fun y hy => ?_⟩
      · obtain ⟨y, hy, q⟩ := List.mem_map.mp ((e2 _).mp (List.mem_map_of_mem hx))
        exact ⟨y, hy, (ih x y).mp q.symm⟩
      · obtain ⟨x, hx, q⟩ := List.mem_map.mp ((e2 _).mpr (List.mem_map_of_mem hy))
        exact ⟨x, hx, (ih x y).mp q⟩
    · rintro ⟨h1, h2, h3⟩
      have e2 : onceT ((names W.n).map fun x => tyR W r (a ++ [x])) = onceT ((names V.n).map fun x => tyR V r (b ++ [x])) := by
        refine onceT_ext (sm W hW a rfl) fun k => ?_
        rw [List.mem_map, List.mem_map]
        constructor
        · rintro ⟨x, hx, rfl⟩
          obtain ⟨y, hy, q⟩ := h2 x hx
          exact ⟨y, hy, ((ih x y).mpr q).symm⟩
        · rintro ⟨y, hy, rfl⟩
          obtain ⟨x, hx, q⟩ := h3 y hy
          exact ⟨x, hx, (ih x y).mpr q⟩
      rw [h1, e2]
theorem shown_ty {W V : Wb} (hW : Dg W) (hV : Dg V) {r : Nat} {a b : List Int} (hl : a.length = b.length) (h10 : a.length + r ≤ 10) : (txt (tyR W r a) = txt (tyR V r b)) ↔ keptB W V r a b = true := by
  rw [← ty_kept hW hV r a b hl h10]
  exact ⟨fun e => shown_inj (sm_tyR hW r a h10) (sm_tyR hV r b (by omega)) e, fun e => by rw [e]⟩
/-! ### types are short -/
theorem enc_two {a b : NestedKey} : (enc (.tup [a, b])).length = (enc a).length + (enc b).length + 4 := by
  rw [enc, encB, encT1, encT]
  simp only [List.length_cons, List.length_append, encT, List.length_nil]
  omega
theorem enc_num {i : Int} : (enc (.num i)).length = 1 := rfl
theorem enc_prs (l : List (Int × Int)) : (enc (prsK l)).length ≤ l.length * 8 + 3 := by
  have := enc_tup_len (m := 6) (ks := l.map pK) fun k hk => by
    obtain ⟨q, _, rfl⟩ := List.mem_map.mp hk
    show (enc (.tup [.num q.1, .num q.2])).length ≤ 6
    rw [enc_two]
    exact Nat.le_refl _
  rw [List.length_map] at this
  exact this
theorem enc_nums (l : List Int) : (enc (numsT l)).length ≤ l.length * 3 + 3 := by
  have := enc_tup_len (m := 1) (ks := l.map .num) fun k hk => by
    obtain ⟨q, _, rfl⟩ := List.mem_map.mp hk
    exact Nat.le_refl _
  rw [List.length_map] at this
  exact this
theorem enc_eye {W : Wb} {a : List Int} (hl : a.length ≤ 6) : (enc (eyeK W a)).length ≤ 900 := by
  have q : ∀ p, (pairsOf p a.length a.length).length ≤ 36 := fun p => Nat.le_trans (pairsOf_len p a.length a.length) (Nat.mul_le_mul hl hl)
  have h1 := enc_nums (a.map (colAt W))
  have h2 := enc_prs (sameL a)
  have h3 := enc_prs (ledL W a)
  have l2 := q fun i j => decide (i < j) && decide (gAt a i = gAt a j)
  have l3 := q fun i j => decide ((gAt a i, gAt a j) ∈ W.arr)
  rw [List.length_map] at h1
  have := enc_tup_len (m := 291) (ks := [numsT (a.map (colAt W)), prsK (sameL a), prsK (ledL W a)]) fun k hk => by
    simp only [List.mem_cons, List.not_mem_nil, or_false] at hk
    unfold sameL at h2
    unfold ledL at h3
    rcases hk with rfl | rfl | rfl
    · omega
    · unfold sameL; omega
    · unfold ledL; omega
  simp only [List.length_cons, List.length_nil] at this
  unfold eyeK
  omega
def bR (n : Nat) : Nat → Nat
  | 0 => 906
  | r + 1 => 907 + n * (bR n r + 2)
theorem enc_tyR {W : Wb} {n : Nat} (hn : W.n ≤ n) : ∀ (r : Nat) (a : List Int), a.length + r ≤ 6 → (enc (tyR W r a)).length ≤ bR n r
  | 0, a, hl => by
    unfold tyR
    rw [enc_two]
    have := enc_eye (W := W) (a := a) (by omega)
    have e : (enc (.tup [])).length = 2 := rfl
    rw [e]
    unfold bR
    omega
  | r + 1, a, hl => by
    unfold tyR
    rw [enc_two]
    have h1 := enc_eye (W := W) (a := a) (by omega)
    have h2 := enc_tup_len (m := bR n r) (ks := onceT ((names W.n).map fun x => tyR W r (a ++ [x]))) fun k hk => by
      obtain ⟨x, _, rfl⟩ := List.mem_map.mp (mem_onceT.mp hk)
      exact enc_tyR hn r _ (by rw [List.length_append]; simp only [List.length_cons, List.length_nil]; omega)
    have h3 := onceT_len ((names W.n).map fun x => tyR W r (a ++ [x]))
    rw [List.length_map, names_len] at h3
    have h4 := Nat.mul_le_mul_right (bR n r + 2) (Nat.le_trans h3 hn)
    show _ ≤ 907 + n * (bR n r + 2)
    omega
theorem dp_prs (l : List (Int × Int)) : (prsK l).depth ≤ 2 := arr_depth l
theorem dp_nums (l : List Int) : (numsT l).depth ≤ 1 := by
  unfold numsT
  rw [NestedKey.depth]
  have : NestedKey.depthAll (l.map .num) ≤ 0 := depthAll_le fun k hk => by
    obtain ⟨c, _, rfl⟩ := List.mem_map.mp hk
    simp [NestedKey.depth]
  omega
theorem dp_eye (W : Wb) (a : List Int) : (eyeK W a).depth ≤ 3 := by
  have h1 := dp_nums (a.map (colAt W))
  have h2 := dp_prs (sameL a)
  have h3 := dp_prs (ledL W a)
  unfold eyeK
  simp only [NestedKey.depth, NestedKey.depthAll]
  omega
theorem dp_tyR (W : Wb) : ∀ (r : Nat) (a : List Int), (tyR W r a).depth ≤ 2 * r + 4
  | 0, a => by
    have := dp_eye W a
    unfold tyR
    simp only [NestedKey.depth, NestedKey.depthAll]
    omega
  | r + 1, a => by
    have h1 := dp_eye W a
    unfold tyR
    have h2 : NestedKey.depthAll (onceT ((names W.n).map fun x => tyR W r (a ++ [x]))) ≤ 2 * r + 4 := depthAll_le fun k hk => by
      obtain ⟨x, _, rfl⟩ := List.mem_map.mp (mem_onceT.mp hk)
      exact dp_tyR W r _
    simp only [NestedKey.depth, NestedKey.depthAll]
    omega
/-- what may be shown -/
def Sh (d : PyData) : Prop := d.showable = true ∧ d.depth ≤ 64 ∧ d.shown.length ≤ sizeLine
theorem sh_of {k : NestedKey} {m : Nat} (h : Sm k) (hd : k.depth ≤ 64) (hm : (enc k).length ≤ m) (hz : m ≤ sizeLine) : Sh k.data := by
  refine ⟨sm_showable h, by rw [nk_depth]; exact hd, ?_⟩
  rw [← tl_len, shown_enc h]
  omega
theorem sh_tyR {W : Wb} (h : Dg W) {n r : Nat} {a : List Int} (hn : W.n ≤ n) (hl : a.length + r ≤ 6) (hz : bR n r ≤ sizeLine) : Sh (tyR W r a).data := sh_of (sm_tyR h r a (by omega)) (Nat.le_trans (dp_tyR W r a) (by omega)) (enc_tyR hn r a hl) hz
end G

set_option Elab.async false
set_option linter.all false
set_option maxRecDepth 100000
set_option maxHeartbeats 4000000
/- t * 1 -/
namespace G
open PySem L2 PySem.Spec PyProof.Rows
theorem tuple_mul1 (l : Addr) (items : Array Value) (n : Nat) (dd : Option Addr) (sl : Array (Option Value)) (u : Tok) :
    Meets (Builtin.«tuple.__mul__» ⟨[.ref l, .int 1 u], []⟩) (fun _ R s => s.heap.get? l = some { cls := .type "tuple", dict := dd, data := .seq items n, slots := sl } ∧ R (.ok (.ret (Value.ref l))) s) :=
  .of_wp fun prog w A R s h => by
    obtain ⟨hp, g, d, tk, os⟩ := s
    obtain ⟨hl, h⟩ := h
    have f1 := AutoSeq1.idx_int
    have c1 : (items.isEmpty || (1 : Int) == 1) = true := by simp
    wp_walk using wpAny_loadPart' hl
    repeat (first
      | (refine wpAny_ite_false (decide_eq_false (by decide)) ?_; wp_walk using wpAny_loadPart' hl)
      | (refine wpAny_ite_true (decide_eq_true c1) ?_; wp_walk using wpAny_loadPart' hl)
      | (refine wpAny_ite_true (decide_eq_true rfl) ?_; wp_walk using wpAny_loadPart' hl))
    exact ⟨_, rfl, h⟩
def rRep1 (K : PySem.W.Frag) : R2 := fun x y H Q => ∃ l xs, x = .ref l ∧ y = .int 1 ∧ SqT K H l xs ∧ Q (.ref l) H
theorem op_rep1 {X : Cx} : OpR X (binaryOp .Mult) (rRep1 X.K) := by
  rintro pins s σ H x y v u Q I rx ry ⟨l, xs, rfl, rfl, hT, q⟩
  cases rx
  obtain ⟨t, rfl⟩ := ry
  obtain ⟨its, r, ⟨⟨cls, dd, data, sl⟩, ho, hc, n, hd⟩, hs⟩ := I.tuple hT
  simp only at hc hd
  subst hc hd
  exact wpAny_binaryOp_repeat_ref (T := "tuple") (U := "int") (by decide) ⟨_, ho, rfl⟩ (fun s' => typeIs_int s' 1 t) noFill_tuple_mul PySem.F.fills_int_mul PySem.F.slot_int_rmul repeat_tuple PySem.F.slot_int_index.lookup
    (call_meets PySem.F.slot_int_rmul (typeIs_int s 1 t) PySem.F.entry_int_rmul (PySem.F.args_int_rmul_2 _ _) (int_rmul_tuple 1 t l its.toArray n dd sl) ⟨ho, rfl, ⟨_, ho, rfl⟩,
      call_meets PySem.F.slot_tuple_mul ⟨_, ho, rfl⟩ PySem.F.entry_tuple_mul (PySem.F.args_tuple_mul_2 _ _) (tuple_mul1 l its.toArray n dd sl t) ⟨ho, ⟨.ref l, H, I, rfl, q⟩⟩⟩)
section
variable {X : Cx} {ρ ρ1 ρ2 : Env'} {a b : Expr} {pos : Pos} {xs : List PyData}
/-- (..) * k, k at least 1 -/
theorem de_repA {k : Int} (h0 : 1 ≤ k) (h1 : k ≤ 1000) (hne : xs ≠ []) (hz : xs.length ≤ 1000) (ha : DE X ρ a (.d (.tuple xs)) ρ1) (hb : DE X ρ1 b (.d (.int k)) ρ2) : DE X ρ (.BinOp a .Mult b pos) (.d (.tuple (List.replicate k.toNat xs).flatten)) ρ2 := by
  by_cases e : k = 1
  · subst e
    rw [show (List.replicate (1 : Int).toNat xs).flatten = xs by show (List.replicate 1 xs).flatten = xs; simp]
    exact fun F Z B H σ Q kk q => ⟨_, pe_op op_rep1 pe_s pe_s, DE.two ha hb kk fun v1 v2 B2 H2 k2 x w1 w2 => by
      obtain ⟨p, vs, e, s, sB, t⟩ := tup_at k2 w1
      have dz : Dp X.K B2 v2 (.int 1) := w2
      cases dz
      exact ⟨p, vs, e, rfl, s, q _ B2 H2 k2 x (e ▸ w1)⟩⟩
  · exact de_repT (by omega) h1 hne hz ha hb
end
end G

set_option Elab.async false
set_option linter.all false
set_option maxRecDepth 100000
set_option maxHeartbeats 4000000
namespace G
open PySem L2 PySem.Spec PyProof.Rows
def psEye (ds : List PyData) (d : PyData) : Prop := ∃ (W : Wb) (a : List Int), W.Ok ∧ (∀ x ∈ a, x ∈ names W.n) ∧ a.length ≤ 20 ∧ ds = [wbD W, .tuple (a.map .int)] ∧ d = (eyeK W a).data
abbrev nEye : List Str := ["web", "row", "colors", "arrows", "same", "led", "i", "x", "j", "y"]
def psOT (ds : List PyData) (d : PyData) : Prop := ∃ ks : List NestedKey, (∀ k ∈ ks, Sm k ∧ Sh k.data) ∧ ks.length < 64 ∧ ds = [.list (ks.map NestedKey.data)] ∧ d = (NestedKey.tup (onceT ks)).data
abbrev nOT : List Str := ["types", "known", "one", "text"]
def psRT (R : Nat) (ds : List PyData) (d : PyData) : Prop := ∃ (W : Wb) (a : List Int) (r : Nat), r ≤ R ∧ Dg W ∧ (∀ x ∈ a, x ∈ names W.n) ∧ a.length + r ≤ 6 ∧ bR W.n r ≤ sizeLine ∧ ds = [wbD W, .tuple (a.map .int), .int r] ∧ d = (tyR W r a).data
abbrev nRT : List Str := ["web", "row", "r", "x"]
def psAK (R : Nat) (ds : List PyData) (d : PyData) : Prop := ∃ (W V : Wb) (a b : List Int) (r : Nat), r ≤ R ∧ Dg W ∧ Dg V ∧ (∀ x ∈ a, x ∈ names W.n) ∧ (∀ x ∈ b, x ∈ names V.n) ∧ a.length = b.length ∧ a.length + r ≤ 6 ∧ bR W.n r ≤ sizeLine ∧ bR V.n r ≤ sizeLine ∧ ds = [wbD W, .tuple (a.map .int), wbD V, .tuple (b.map .int), .int r] ∧ d = .bool (keptB W V r a b)
abbrev nAK : List Str := ["one", "a", "other", "b", "r"]
theorem bR_ok : ∀ n r : Nat, n ≤ 4 → r ≤ 5 → bR n r ≤ sizeLine := fun n r hn hr => by
  have : ∀ (n : Fin 5) (r : Fin 6), bR n.1 r.1 ≤ sizeLine := by decide +kernel
  exact this ⟨n, by omega⟩ ⟨r, by omega⟩
theorem eye_data (W : Wb) (a : List Int) : (eyeK W a).data = .tuple [.tuple ((a.map (colAt W)).map .int), .tuple (pD (sameL a)), .tuple (pD (ledL W a))] := by
  have h1 : (numsT (a.map (colAt W))).data = .tuple ((a.map (colAt W)).map .int) := by
    unfold numsT
    rw [NestedKey.data, datas_map, List.map_map]; rfl
  have h2 : ∀ l, (prsK l).data = .tuple (pD l) := fun l => by
    unfold prsK pD
    rw [NestedKey.data, datas_map]
  unfold eyeK
  rw [NestedKey.data, NestedKey.datas, NestedKey.datas, NestedKey.datas, NestedKey.datas, h1, h2, h2]
theorem two_data (a b : NestedKey) : (NestedKey.tup [a, b]).data = .tuple [a.data, b.data] := by
  rw [NestedKey.data, NestedKey.datas, NestedKey.datas, NestedKey.datas]
theorem tupK_data (ks : List NestedKey) : (NestedKey.tup ks).data = .tuple (ks.map NestedKey.data) := by
  rw [NestedKey.data, datas_map]
theorem bool_no {b : Bool} (h : ¬ b = true) : b = false := by simpa using h
theorem gAt_in {W : Wb} {a : List Int} (h : ∀ x ∈ a, x ∈ names W.n) {i : Nat} (hi : i < a.length) : gAt a i ∈ names W.n := by
  unfold gAt
  rw [List.getD_eq_getElem?_getD, List.getElem?_eq_getElem hi]
  exact h _ (List.getElem_mem hi)
end G

set_option Elab.async false
set_option linter.all false
set_option maxRecDepth 100000
set_option maxHeartbeats 4000000
namespace G
open PySem L2 PySem.Spec PyProof.Rows
theorem bool_neq (x y : Bool) : (!(x == y)) = !decide (x = y) := by cases x <;> cases y <;> rfl
theorem ints_sh' (l : List Int) : SeqAt.shaped (.list (l.map PyData.int)) = true := (sx_list (n := 0) fun x hx => by
  obtain ⟨i, _, rfl⟩ := List.mem_map.mp hx
  exact sx_int).sh
theorem at_names' {n : Nat} (F : Int → PyData) {x : Int} (hx : x ∈ names n) : atI ((names n).map F) x = some (F x) := by
  obtain ⟨h1, h2⟩ := mem_names.mp hx
  have hi : x.toNat < n := by omega
  unfold atI
  rw [ix_pos h1 (by rw [List.length_map, names_len]; omega)]
  show ((names n).map F)[x.toNat]? = _
  unfold names
  rw [List.getElem?_map, List.getElem?_map, List.getElem?_range hi]
  show some (F ((x.toNat : Nat) : Int)) = _
  rw [show ((x.toNat : Nat) : Int) = x by omega]
theorem de_neD' {X : Cx} {ρ ρ1 ρ2 : Env'} {a b : Expr} {pos : Pos} {x y : PyData} (hu : X.A.units + 64 < cLine) (hx : SeqAt.shaped x = true) (hy : SeqAt.shaped y = true) (ha : DE X ρ a (.d x) ρ1) (hb : DE X ρ1 b (.d y) ρ2) : DE X ρ (.Compare a [.NotEq] [b] pos) (.d (.bool (!PyData.eqv x y))) ρ2 :=
  de_cmp (op_neD hu) (od_neD hx hy) (nomark b) ha hb
theorem names_all (n : Nat) (f : Nat → Bool) : ((names n).all fun x => f x.toNat) = (List.range n).all f := by
  unfold names
  rw [List.all_map]
  rfl
theorem at_g {l : List Int} {x : Int} (hx : x ∈ names l.length) : atI (l.map PyData.int) x = some (.int (gAt l x.toNat)) := by
  obtain ⟨h1, h2⟩ := mem_names.mp hx
  exact at_ints h1 h2
def psIS (ds : List PyData) (d : PyData) : Prop := ∃ (W V : Wb) (a b : List Int), W.Ok ∧ V.Ok ∧ (∀ x ∈ a, x ∈ names W.n) ∧ (∀ x ∈ b, x ∈ names V.n) ∧ a.length = b.length ∧ a.length ≤ 20 ∧ ds = [wbD W, .tuple (a.map .int), wbD V, .tuple (b.map .int)] ∧ d = .bool (sameB W a V b)
abbrev nIS : List Str := ["one", "a", "other", "b", "i", "j"]
def psIK (R : Nat) (ds : List PyData) (d : PyData) : Prop := ∃ (W V : Wb) (a b : List Int) (r : Nat), r ≤ R ∧ W.Ok ∧ V.Ok ∧ (∀ x ∈ a, x ∈ names W.n) ∧ (∀ x ∈ b, x ∈ names V.n) ∧ a.length = b.length ∧ a.length + r ≤ 20 ∧ ds = [wbD W, .tuple (a.map .int), wbD V, .tuple (b.map .int), .int r] ∧ d = .bool (keptB W V r a b)
abbrev nIK : List Str := ["one", "a", "other", "b", "r", "table", "x", "y", "row"]
theorem nil_eqv (l : List PyData) : PyData.eqv (.list l) (.list []) = l.isEmpty := by
  cases l <;> simp [PyData.eqv, PyData.eqvAll]
theorem any_true (l : List Bool) : ((l.map PyData.bool).any fun z => PyData.eqv z (.bool true)) = l.any id := by
  rw [List.any_map]
  congr 1
  funext b
  cases b <;> simp [PyData.eqv]
theorem any_true2 {α : Type} (l : List α) (f : α → Bool) : ((l.map fun x => PyData.bool (f x)).any fun z => PyData.eqv z (.bool true)) = l.any f := by
  rw [List.any_map]
  congr 1
  funext x
  show PyData.eqv (.bool (f x)) (.bool true) = f x
  cases f x <;> simp [PyData.eqv]
theorem sx_bools (l : List Bool) : Sx 1 (.list (l.map .bool)) := sx_list fun x hx => by
  obtain ⟨b, _, rfl⟩ := List.mem_map.mp hx
  exact sx_bool
theorem filter_none {α : Type} (l : List α) (f : α → Bool) : (l.filter fun x => !f x).isEmpty = l.all f := by
  induction l with
  | nil => rfl
  | cons x l ih =>
    rw [List.filter_cons, List.all_cons]
    cases f x with
    | true => exact ih
    | false => rfl
theorem map_empty {α β : Type} (l : List α) (f : α → β) : (l.map f).isEmpty = l.isEmpty := by cases l <;> rfl
def rowD (l : List Int) : PyData := .tuple (l.map .int)
theorem rowD_sh {l : List Int} : SeqAt.shaped (rowD l) = true := (sx_tup (n := 0) fun x hx => by
  obtain ⟨i, _, rfl⟩ := List.mem_map.mp hx
  exact sx_int).sh
theorem in_row (l : List Int) (y : Int) : ((l.map PyData.int).any fun z => PyData.eqv z (.int y)) = decide (y ∈ l) := by
  rw [List.any_map, Bool.eq_iff_iff, decide_eq_true_iff, List.any_eq_true]
  constructor
  · rintro ⟨z, hz, e⟩
    have : z = y := by simpa [PyData.eqv] using e
    exact this ▸ hz
  · intro h
    exact ⟨y, h, by simp [PyData.eqv]⟩
end G

set_option Elab.async false
set_option linter.all false
set_option maxRecDepth 100000
set_option maxHeartbeats 4000000
/- webs beside each other, rings, far looks asked, walked -/
namespace G
open PySem L2 PySem.Spec PyProof.Rows
section
variable {X : Cx} {ρ ρ1 ρ2 : Env'} {tg a b e : Expr} {pos p p0 p1 p2 p3 p4 p5 : Pos} {W : Wb} {k0 k1 k2} {r : R}
/-- tuple(sorted(dict(e))), e a list of (key, value) -/
theorem de_onceK {ks : List NestedKey} {v : PyData} (hc : X.calm = true) (hu : X.A.units + 100 < cLine) (kin : Kin ks) (hz : ks.length < 100000) (mt : X.mg "tuple" = none) (ms : X.mg "sorted" = none) (md : X.mg "dict" = none) (h : DLd X ρ e (ks.map fun k => .tuple [k.data, v]) ρ1)
    (hg : Gl X "tuple" := by rfl) (hg2 : Gl X "sorted" := by rfl) (hg3 : Gl X "dict" := by rfl)
    (he : starEach [e] X.env = (false, eval e X.env) :: starEach [] X.env := by rfl) (hp : (backTo p5 (starEach [] X.env)).any (·.1) = false := by rfl)
    (he2 : starEach [.Call (.Name "dict" p4) [e] [] p5] X.env = (false, eval (.Call (.Name "dict" p4) [e] [] p5) X.env) :: starEach [] X.env := by rfl) (hp2 : (backTo p3 (starEach [] X.env)).any (·.1) = false := by rfl)
    (he3 : starEach [.Call (.Name "sorted" p2) [.Call (.Name "dict" p4) [e] [] p5] [] p3] X.env = (false, eval (.Call (.Name "sorted" p2) [.Call (.Name "dict" p4) [e] [] p5] [] p3) X.env) :: starEach [] X.env := by rfl) (hp3 : (backTo pos (starEach [] X.env)).any (·.1) = false := by rfl) :
    DE X ρ (.Call (.Name "tuple" p) [.Call (.Name "sorted" p2) [.Call (.Name "dict" p4) [e] [] p5] [] p3] [] pos) (.d (.tuple ((onceK ks).map NestedKey.data))) ρ1 := by
  have e1 : (ks.map fun k => PyData.tuple [k.data, v]) = (ks.map fun k => (k, v)).map pairD := by rw [List.map_map]; rfl
  have e2 : putAllN [] (ks.map fun k => (k, v)) = (ks.foldl addK []).map fun k => (k, v) := putAll_const _ ks []
  have e3 : ((putAllN [] (ks.map fun k => (k, v))).map fun x => x.1.data) = (ks.foldl addK []).map NestedKey.data := by rw [e2, List.map_map]; rfl
  have mem : ∀ k ∈ ks.foldl addK [], k ∈ ks := fun k hk => by simpa using mem_addAll.mp hk
  rw [e1] at h
  refine de_is (de_tupL .d mt (DL.de (dl_sortF hc hu ?_ ?_ ms (dd_pairs (kvs := ks.map fun k => (k, v)) hc hu h ?_ ?_ md hg3 he hp) hg2 he2 hp2)) hg he3 hp3) ?_
  · rw [e3]
    intro a ha b hb
    obtain ⟨ka, ha', rfl⟩ := List.mem_map.mp ha
    obtain ⟨kb, hb', rfl⟩ := List.mem_map.mp hb
    exact kin.al ka (mem ka ha') kb (mem kb hb')
  · rw [e3]
    refine .inl fun d hd => ?_
    obtain ⟨ka, ha', rfl⟩ := List.mem_map.mp hd
    obtain ⟨k, r, rfl⟩ := kin.tup ka (mem ka ha')
    exact ⟨_, _, by rw [NestedKey.data, NestedKey.datas]⟩
  · intro p hp
    obtain ⟨k, hk, rfl⟩ := List.mem_map.mp hp
    obtain ⟨a, r, e⟩ := kin.tup k hk
    exact ⟨kin.dep k hk, _, e⟩
  · rw [List.length_map]; omega
  · rw [e3, ← sortK_data]; rfl
end
def unpK : NestedKey → Int × Int
  | .tup [.num a, .num b] => (a, b)
  | _ => (0, 0)
def onceP (l : List (Int × Int)) : List (Int × Int) := (onceK (l.map pK)).map unpK
theorem unpK_pK (q : Int × Int) : unpK (pK q) = q := rfl
theorem onceP_K (l : List (Int × Int)) : (onceP l).map pK = onceK (l.map pK) := by
  unfold onceP
  rw [List.map_map]
  refine (List.map_congr_left fun k hk => ?_).trans (List.map_id _)
  obtain ⟨q, _, rfl⟩ := List.mem_map.mp (mem_onceK.mp hk)
  rfl
theorem mem_onceP {l : List (Int × Int)} {q : Int × Int} : q ∈ onceP l ↔ q ∈ l := by
  rw [← mem_pKs (l := onceP l), onceP_K, mem_onceK, mem_pKs]
theorem onceK_le (ks : List NestedKey) : (onceK ks).length ≤ ks.length := by
  unfold onceK sortK
  rw [(List.mergeSort_perm _ _).length_eq]
  have go : ∀ (ks as : List NestedKey), (ks.foldl addK as).length ≤ as.length + ks.length := by
    intro ks
    induction ks with
    | nil => intro as; exact Nat.le_refl _
    | cons k ks ih =>
      intro as
      rw [List.foldl_cons, List.length_cons]
      have := ih (addK as k)
      have := addK_len (k := k) (ks := as)
      omega
  simpa using go ks []
theorem onceP_le (l : List (Int × Int)) : (onceP l).length ≤ l.length := by
  unfold onceP
  rw [List.length_map]
  have := onceK_le (l.map pK)
  rwa [List.length_map] at this
end G

set_option Elab.async false
set_option linter.all false
set_option maxRecDepth 100000
set_option maxHeartbeats 4000000
/- drawn webs held beside others: parts, walked -/
namespace G
open PySem L2 PySem.Spec PyProof.Rows
section
variable {X : Cx} {ρ ρ' ρ1 ρ2 ρ3 : Env'} {a b c : Expr} {es : List Expr} {pos : Pos} {xs ys : List PyData} {d1 : PyData}
/-- x, y = d, [..] (names that are cells) -/
theorem ds_asg2 {i j : Nat} {x y : Str} {s1 : Sl} {px py pt pt2 : Pos} {kt k2} (hc : X.calm = true) (hN : X.N.Nodup) (h1 : DE X ρ a (.d d1) ρ1) (h2 : DL X ρ1 b ys ρ2) (hij : i ≠ j)
    (hr2 : ρ2[j]? = some s1 := by rfl) (hi : X.N[i]? = some x := by rfl) (hj : X.N[j]? = some y := by rfl)
    (lx : Loc X.env.scope x := by first | exact Or.inl rfl | exact Or.inr rfl) (ly : Loc X.env.scope y := by first | exact Or.inl rfl | exact Or.inr rfl)
    (fx : X.fn x = true ∨ X.env.scope.names.lookup x = some .local := by first | exact .inl rfl | exact .inr rfl) (fy : X.fn y = true ∨ X.env.scope.names.lookup y = some .local := by first | exact .inl rfl | exact .inr rfl)
    (hs : swapsWithSole [.Tuple [.Name x px, .Name y py] kt pt] (.Tuple [a, b] k2 pt2) pos.line X.env = pure false := by rfl) (hw : swappedStores [.Tuple [.Name x px, .Name y py] kt pt] (.Tuple [a, b] k2 pt2) X.env = pure none := by rfl)
    (hs1 : starEach [a, b] X.env = (false, eval a X.env) :: starEach [b] X.env := by rfl) (hs2 : starEach [b] X.env = (false, eval b X.env) :: starEach [] X.env := by rfl) :
    DS X ρ (.Assign [.Tuple [.Name x px, .Name y py] kt pt] (.Tuple [a, b] k2 pt2) pos) (.nx ((ρ2.set j (.o (.lst ys))).set i (.d d1))) := fun F Z B H σ D k q =>
  ⟨_, ps_asg (pe_tup (pa_cons pe_s (pa_cons pe_s pa_nil hs2) hs1)) (pg_tup (n := 2) hc (pgs_cons (pg_name hN hi lx fx) (pgs_cons (pg_name hN hj ly fy) pgs_nil))) hs hw,
    h1 F Z B H σ _ k fun v1 B1 H1 k1 x1 w1 => by
    refine h2 F Z B1 H1 σ _ k1 fun p2 us B2 H2 k2 x2 n2 hp2 t2 => ?_
    refine ⟨by show 2 ≤ sizeLine; decide, fun t ht => ?_⟩
    have k7 := k2.loose ht (.tup [v1, .ref p2])
    have keep : ∀ b, b ≠ t → upd H2 t (.tup [v1, .ref p2]) b = H2 b := fun b hb => upd_ne hb
    have t2' : p2 ≠ t := fun e => by rw [← e, hp2] at ht; cases ht
    have n8 : New X.K F Z B2 (upd H2 t (.tup [v1, .ref p2])) σ ρ2 p2 := n2.other (B' := B2) k2 (fun b hb ⟨o, ho⟩ => keep b fun e => by rw [e, ht] at ho; cases ho) ⟨_, hp2⟩
    have o8 : ObAt X.K B2 (upd H2 t (.tup [v1, .ref p2])) (.ref p2) [p2] (.lst ys) := .lst ((keep p2 t2').trans hp2) t2
    refine ⟨t, [v1, .ref p2], rfl, SqT.of upd_same, rfl, _, _, rfl, _, _, rfl, rfl, ?_⟩
    have j1 : j < ρ2.length := (List.getElem?_eq_some_iff.mp hr2).1
    have k9 := (k7.take n8 j1 o8).setD (i := i) (dp_mono x2 (show Dp X.K B1 v1 d1 from w1))
    rw [← List.set_comm _ _ hij] at k9
    exact q B2 _ _ k9 (x1.trans x2)⟩
theorem dg_lst {n : Nat} {kk : Nat} {js : List Nat} (hc : X.calm = true) (h : DGs X ρ es xs js ρ1) (hl : xs.length = n) (hn : (assignEach es X.env).length = n := by rfl) (hst : (assignEach es X.env).findIdx? (·.1) = none := by rfl) :
    DG X ρ (.Tuple es kk pos) (.list xs) js ρ1 := fun F Z B H σ v Q k w q => by
  obtain ⟨p, vs, e, s, t⟩ := (RL.d (ρ := ρ) (xs := xs)).at k (show VR X.K B σ v (.d (.list xs)) from w)
  exact ⟨_, pg_lst hc pgs_s hn hst, p, vs, e, s, by rw [DpAll.length t]; exact hl, h F Z B H σ vs Q k t q⟩
end
def psOf (st : Src) (ds : List PyData) (d : PyData) (st' : Src) : Prop := ∃ xs : List PyData, 1 ≤ xs.length ∧ xs.length ≤ 1000 ∧ ds = [.list xs] ∧ d = xs.getD (pick st xs.length).1.toNat .none ∧ st' = (pick st xs.length).2
abbrev nOf : List Str := ["source", "some"]
theorem scOf : FnScope nOf ["source", "some"] (defScope s__law_of) := ⟨rfl, rfl, rfl, by decide +kernel, rfl, by decide +kernel, by decide +kernel⟩
def psTW (ds : List PyData) (d : PyData) : Prop := ∃ (n : Nat) (c : List Int) (l : List (Int × Int)) (cd : PyData), (cd = .list (c.map .int) ∨ cd = .tuple (c.map .int)) ∧ l.length ≤ 10000 ∧ ds = [.int n, cd, .list (pD l)] ∧ d = wbD ⟨n, c, onceP l⟩
abbrev nTW : List Str := ["n", "colors", "arrows", "pair"]
theorem scTW : FnScope nTW ["n", "colors", "arrows"] (defScope s__law_told_web) := ⟨rfl, rfl, rfl, by decide +kernel, rfl, by decide +kernel, by decide +kernel⟩
theorem nodup_le {α : Type} [DecidableEq α] : ∀ {l m : List α}, l.Nodup → (∀ x ∈ l, x ∈ m) → l.length ≤ m.length
  | [], _, _, _ => Nat.zero_le _
  | a :: l, m, nd, h => by
    rw [List.nodup_cons] at nd
    have ha := h a List.mem_cons_self
    have := nodup_le (l := l) (m := m.erase a) nd.2 fun x hx => (List.mem_erase_of_ne fun e => nd.1 (by rw [← e]; exact hx)).mpr (h x (List.mem_cons_of_mem _ hx))
    rw [List.length_erase_of_mem ha] at this
    have := List.length_pos_of_mem ha
    simp only [List.length_cons]
    omega
def prodL (n : Nat) : List (Int × Int) := (names n).flatMap fun a => (names n).map fun b => (a, b)
theorem prodL_len (n : Nat) : (prodL n).length = n * n := by
  unfold prodL
  rw [List.length_flatMap]
  have : ((names n).map fun a => ((names n).map fun b => (a, b)).length) = List.replicate n n := by
    have e : ∀ a : Int, ((names n).map fun b => (a, b)).length = n := fun a => by rw [List.length_map, names_len]
    simp only [e]
    rw [List.map_const', names_len]
  rw [this]
  simp
theorem onceP_nodup (l : List (Int × Int)) : (onceP l).Nodup := by
  have : ((onceP l).map pK).Nodup := by
    rw [onceP_K]
    unfold onceK sortK
    exact (List.mergeSort_perm _ _).nodup_iff.mpr (addAll_nodup (by simp))
  exact List.Pairwise.imp (fun h e => h (by rw [e])) (List.pairwise_map.mp this)
/-- what is drawn of webs -/
structure Rw (m : Nat) (W : Wb) : Prop where
  lo : 1 ≤ W.n
  hi : W.n ≤ m
  lc : W.col.length = W.n
  col : ∀ c ∈ W.col, 0 ≤ c ∧ c < 10
  ins : ∀ p ∈ W.arr, p.1 ∈ names W.n ∧ p.2 ∈ names W.n
  nd : W.arr.Nodup
theorem Rw.la {m : Nat} {W : Wb} (h : Rw m W) (hm : m ≤ 9) : W.arr.length ≤ 81 := by
  have := nodup_le (m := prodL W.n) h.nd fun q hq => by
    obtain ⟨h1, h2⟩ := h.ins q hq
    exact List.mem_flatMap.mpr ⟨q.1, h1, List.mem_map.mpr ⟨q.2, h2, rfl⟩⟩
  rw [prodL_len] at this
  have h2 := Nat.mul_le_mul (Nat.le_trans h.hi hm) (Nat.le_trans h.hi hm)
  omega
theorem Rw.dg {m : Nat} {W : Wb} (h : Rw m W) (hm : m ≤ 9) : Dg W := ⟨⟨by have := h.hi; omega, h.lc⟩, by have := h.hi; omega, h.col⟩
/-! ### called otherwise -/
def gP (p : List Int) (q : Int × Int) : Int × Int := (p.getD q.1.toNat 0, p.getD q.2.toNat 0)
def calC (p c : List Int) : Nat → List Int
  | 0 => List.replicate c.length 0
  | k + 1 => (calC p c k).set (p.getD k 0).toNat (c.getD k 0)
def calW (p : List Int) (W : Wb) : Wb := ⟨W.n, calC p W.col W.n, onceP (W.arr.map (gP p))⟩
def calS (W : Wb) (s : Src) : Wb × Src := (calW (anyS (names W.n) s).1 W, (anyS (names W.n) s).2)
theorem calC_len (p c : List Int) : ∀ k : Nat, (calC p c k).length = c.length
  | 0 => by simp [calC]
  | k + 1 => by unfold calC; rw [List.length_set, calC_len p c k]
theorem calC_in (p c : List Int) (h : ∀ z ∈ c, 0 ≤ z ∧ z < 10) : ∀ k : Nat, ∀ z ∈ calC p c k, 0 ≤ z ∧ z < 10
  | 0, z, hz => by
    rw [List.eq_of_mem_replicate hz]; decide
  | k + 1, z, hz => by
    rcases List.mem_or_eq_of_mem_set hz with q | q
    · exact calC_in p c h k z q
    · rw [q, List.getD_eq_getElem?_getD]
      cases e : c[k]? with
      | none => exact ⟨by decide, by decide⟩
      | some v => exact h v (List.mem_of_getElem? e)
theorem permAt {n : Nat} {p : List Int} (h : p.Perm (names n)) {x : Int} (hx : x ∈ names n) : p.getD x.toNat 0 ∈ names n := by
  obtain ⟨h1, h2⟩ := mem_names.mp hx
  have hl : p.length = n := by rw [h.length_eq, names_len]
  rw [List.getD_eq_getElem?_getD, List.getElem?_eq_getElem (by omega)]
  exact h.mem_iff.mp (List.getElem_mem _)
theorem cal_rw {m : Nat} {W : Wb} (h : Rw m W) {p : List Int} (hp : p.Perm (names W.n)) : Rw m (calW p W) where
  lo := h.lo
  hi := h.hi
  lc := by show (calC p W.col W.n).length = W.n; rw [calC_len, h.lc]
  col := calC_in p W.col h.col W.n
  ins := fun q hq => by
    obtain ⟨z, hz, rfl⟩ := List.mem_map.mp (mem_onceP.mp hq)
    obtain ⟨h1, h2⟩ := h.ins z hz
    exact ⟨permAt hp h1, permAt hp h2⟩
  nd := onceP_nodup _
theorem calS_rw {m : Nat} {W : Wb} (h : Rw m W) (s : Src) : Rw m (calS W s).1 := cal_rw h (anyS_perm _ _)
theorem rep0 (n : Nat) : (List.replicate n [PyData.int 0]).flatten = (List.replicate n (0 : Int)).map .int := by
  induction n with
  | zero => rfl
  | succ n ih => rw [List.replicate_succ, List.flatten_cons, ih, List.replicate_succ]; rfl
section
variable {P : Program} {w : World} {K : PySem.W.Frag} {mg : Str → Option Value} {base : Heap}
theorem ok_of {f f1 : Addr} {fd fd1 : FuncData} (D : Df K mg "_law_of" s__law_of f fd ["source", "some"]) (D1 : Df K mg "_law_pick" sPickB f1 fd1 ["source", "most"]) (T : Bt mg) : FnG P w K mg base 2 f fd ["source", "some"] (spS K psOf) := by
  refine fnS_of D.fn scOf (fun st ds d st' ⟨_, _, _, e, _⟩ => by rw [e]; rfl) ?_
  rintro cdv A outer s H E sa s0 ds d st' hg hr ⟨xs, l1, l2, rfl, rfl, rfl⟩
  have ih := ok_pickB (P := P) (w := w) (base := base) D1 T
  have q := pick_in s0 (many := (xs.length : Int)) (by omega)
  generalize hp : pick s0 xs.length = p at q
  obtain ⟨i, s1⟩ := p
  dsimp only at q
  refine ⟨[.o (.src sa s1), .d (.list xs)], rfl, db_one (ds_ret (de_ixL (i := i) .d ?_ (nv 1) (de_callS (i := 0) ih hg (hr.mono (by omega)) D1.mg D1.kp D1.bd (ds := [.int xs.length]) (d := .int i) (sr' := s1) ⟨xs.length, by omega, rfl, by rw [hp], by rw [hp]⟩ (ow 0) (da_cons (de_len (.l .d) T.len_ (nv 1)) da_nil))))⟩
  unfold atI
  rw [ix_pos q.1 q.2]
  show xs[i.toNat]? = some (xs.getD i.toNat .none)
  rw [List.getD_eq_getElem?_getD, List.getElem?_eq_getElem (by omega)]; rfl
theorem ok_tw {f : Addr} {fd : FuncData} (D : Df K mg "_law_told_web" s__law_told_web f fd ["n", "colors", "arrows"]) (T : Bt mg) : FnG P w K mg base 1 f fd ["n", "colors", "arrows"] (spP K psTW) := by
  refine fnP_of D.fn scTW (fun ds d ⟨_, _, _, _, _, _, e, _⟩ => by rw [e]; rfl) ?_
  rintro cdv A outer s H E ds d hg hr ⟨n, c, l, cd, hcd, hl, rfl, rfl⟩
  have hu : (A.deeper (envOfC "_law_told_web" (defScope s__law_told_web) s.heap.objs.size f cdv)).units + 100 < cLine := by have := hr.un; omega
  have z1 : (100000 : Nat) ≤ sizeLine := by decide
  have e1 : (l.map fun q => PyData.tuple [prD q, .int 0]) = (l.map pK).map fun k => PyData.tuple [k.data, .int 0] := by rw [List.map_map]; rfl
  have e2 : (onceK (l.map pK)).map NestedKey.data = ((onceP l).map pK).map NestedKey.data := by rw [onceP_K]
  refine ⟨[.d (.int n), .d cd, .d (.list (pD l)), .un], ?_⟩
  rcases hcd with rfl | rfl
  · exact db_one (ds_ret (de_tup (xs := [.int n, .tuple (c.map .int), .tuple (((onceP l).map pK).map NestedKey.data)]) (da_cons (nv 0) (da_cons (de_tupL .d T.tuple_ (nv 1)) (da_cons (de_is (de_onceK (ks := l.map pK) (v := .int 0) rfl hu (kin_pairs l) (by rw [List.length_map]; omega) T.tuple_ T.sorted_ T.dict_ (DL.ld (dl_is e1 (dl_mapA l prD (fun q => .tuple [prD q, .int 0]) [("pair", 3)] rfl scTW.nd (blkOk_by (N := nTW) (sc := defScope s__law_told_web) (by decide +kernel)) (by rw [← pD_eq]; exact di_list (nv 2)) (by (intro j hj; first | (cases hj with | head => rfl | tail _ h => cases h) | (cases hj with | head => rfl | tail _ h => cases h with | head => rfl | tail _ h => cases h) | (cases hj with | head => rfl | tail _ h => cases h with | head => rfl | tail _ h => cases h with | head => rfl | tail _ h => cases h))) (fun q hq => ⟨_, _, _, fun _ _ _ _ _ => dg_name (i := 3) scTW.nd, fun _ _ _ _ _ => de_tup (da_cons (nv 3) (da_cons de_int da_nil)), by simp, by first | exact G.Wk.refl _ | (repeat (first | exact G.Wk.nil | apply G.Wk.cons | apply G.Wk.drop))⟩) (by omega))))) (by rw [e2])) da_nil)))))
  · exact db_one (ds_ret (de_tup (xs := [.int n, .tuple (c.map .int), .tuple (((onceP l).map pK).map NestedKey.data)]) (da_cons (nv 0) (da_cons (de_tupT T.tuple_ (nv 1)) (da_cons (de_is (de_onceK (ks := l.map pK) (v := .int 0) rfl hu (kin_pairs l) (by rw [List.length_map]; omega) T.tuple_ T.sorted_ T.dict_ (DL.ld (dl_is e1 (dl_mapA l prD (fun q => .tuple [prD q, .int 0]) [("pair", 3)] rfl scTW.nd (blkOk_by (N := nTW) (sc := defScope s__law_told_web) (by decide +kernel)) (by rw [← pD_eq]; exact di_list (nv 2)) (by (intro j hj; first | (cases hj with | head => rfl | tail _ h => cases h) | (cases hj with | head => rfl | tail _ h => cases h with | head => rfl | tail _ h => cases h) | (cases hj with | head => rfl | tail _ h => cases h with | head => rfl | tail _ h => cases h with | head => rfl | tail _ h => cases h))) (fun q hq => ⟨_, _, _, fun _ _ _ _ _ => dg_name (i := 3) scTW.nd, fun _ _ _ _ _ => de_tup (da_cons (nv 3) (da_cons de_int da_nil)), by simp, by first | exact G.Wk.refl _ | (repeat (first | exact G.Wk.nil | apply G.Wk.cons | apply G.Wk.drop))⟩) (by omega))))) (by rw [e2])) da_nil)))))
end
end G

set_option Elab.async false
set_option linter.all false
set_option maxRecDepth 100000
set_option maxHeartbeats 4000000
/- drawn webs, and others to be held beside them, walked -/
namespace G
open PySem L2 PySem.Spec PyProof.Rows
def rowA (share a : Int) (s : Src) : Nat → List (Int × Int) × Src
  | 0 => ([], s)
  | b + 1 => if a = (b : Int) then rowA share a s b else ((if (pick (rowA share a s b).2 4).1 < share then (rowA share a s b).1 ++ [(a, (b : Int))] else (rowA share a s b).1), (pick (rowA share a s b).2 4).2)
def arrA (share : Int) (n : Nat) (s : Src) : Nat → List (Int × Int) × Src
  | 0 => ([], s)
  | a + 1 => ((arrA share n s a).1 ++ (rowA share a (arrA share n s a).2 n).1, (rowA share a (arrA share n s a).2 n).2)
def way1 (way : Int) (l : List (Int × Int)) : List (Int × Int) := if way = 1 then l ++ l.map fun q => (q.2, q.1) else l
def way2 (way : Int) (n : Nat) (l : List (Int × Int)) : List (Int × Int) := if way = 2 then ((names n).filter fun _ => decide ((1 : Int) < n)).map fun a => (a, (a + 1) % (n : Int)) else l
def way3 (way : Int) (n : Nat) (l : List (Int × Int)) : List (Int × Int) := if way = 3 then (names (n - 1)).map fun a => (a, a + 1) else l
structure Dr where
  n : Nat
  way : Int
  high : Int
  share : Int
  s : Src
def drR (most : Int) (s : Src) : Dr :=
  ⟨(1 + (pick s most).1).toNat, (pick (pick s most).2 5).1, [(1 : Int), 1, 2].getD (pick (pick (pick s most).2 5).2 3).1.toNat 0, (pick (pick (pick (pick s most).2 5).2 3).2 5).1, (pick (pick (pick (pick s most).2 5).2 3).2 5).2⟩
def finR (d : Dr) : Wb × Src :=
  (⟨d.n, (runS d.high (arrA d.share d.n d.s d.n).2 d.n).1, onceP (way3 d.way d.n (way2 d.way d.n (way1 d.way (arrA d.share d.n d.s d.n).1)))⟩, (runS d.high (arrA d.share d.n d.s d.n).2 d.n).2)
def webR (most : Int) (s : Src) : Wb × Src := finR (drR most s)
theorem rowA_in {share a : Int} {s : Src} {n : Nat} (ha : a ∈ names n) : ∀ b : Nat, b ≤ n → (∀ q ∈ (rowA share a s b).1, q.1 ∈ names n ∧ q.2 ∈ names n) ∧ (rowA share a s b).1.length ≤ b
  | 0, _ => ⟨fun _ h => (nomatch h), Nat.le_refl _⟩
  | b + 1, hb => by
    obtain ⟨h1, h2⟩ := rowA_in (share := share) (s := s) ha b (by omega)
    unfold rowA
    split
    · exact ⟨h1, by omega⟩
    · dsimp only
      split
      · refine ⟨fun q hq => ?_, by rw [List.length_append]; simp only [List.length_cons, List.length_nil]; omega⟩
        rcases List.mem_append.mp hq with hq | hq
        · exact h1 q hq
        · rw [List.mem_singleton.mp hq]
          exact ⟨ha, mem_names.mpr ⟨by show (0 : Int) ≤ (b : Int); omega, by show (b : Int) < (n : Int); omega⟩⟩
      · exact ⟨h1, by omega⟩
theorem arrA_in {share : Int} {n : Nat} {s : Src} : ∀ a : Nat, a ≤ n → (∀ q ∈ (arrA share n s a).1, q.1 ∈ names n ∧ q.2 ∈ names n) ∧ (arrA share n s a).1.length ≤ a * n
  | 0, _ => ⟨fun _ h => (nomatch h), by simp [arrA]⟩
  | a + 1, ha => by
    obtain ⟨h1, h2⟩ := arrA_in (share := share) (n := n) (s := s) a (by omega)
    have hm : (a : Int) ∈ names n := (mem_names (n := n)).mpr ⟨by omega, by omega⟩
    obtain ⟨h3, h4⟩ := rowA_in (share := share) (s := (arrA share n s a).2) hm n (Nat.le_refl _)
    unfold arrA
    refine ⟨fun q hq => (List.mem_append.mp hq).elim (h1 q) (h3 q), ?_⟩
    show List.length (_ ++ _) ≤ _
    rw [List.length_append, Nat.succ_mul]
    omega
theorem way_in {way : Int} {n : Nat} {l : List (Int × Int)} (hn : 1 ≤ n) (h9 : n ≤ 9) (h : ∀ q ∈ l, q.1 ∈ names n ∧ q.2 ∈ names n) (hl : l.length ≤ 81) : (∀ q ∈ way3 way n (way2 way n (way1 way l)), q.1 ∈ names n ∧ q.2 ∈ names n) ∧ (way3 way n (way2 way n (way1 way l))).length ≤ 162 := by
  have a1 : (∀ q ∈ way1 way l, q.1 ∈ names n ∧ q.2 ∈ names n) ∧ (way1 way l).length ≤ 162 := by
    unfold way1
    split
    · refine ⟨fun q hq => ?_, by rw [List.length_append, List.length_map]; omega⟩
      rcases List.mem_append.mp hq with hq | hq
      · exact h q hq
      · obtain ⟨z, hz, rfl⟩ := List.mem_map.mp hq
        exact ⟨(h z hz).2, (h z hz).1⟩
    · exact ⟨h, by omega⟩
  have a2 : (∀ q ∈ way2 way n (way1 way l), q.1 ∈ names n ∧ q.2 ∈ names n) ∧ (way2 way n (way1 way l)).length ≤ 162 := by
    unfold way2
    split
    · refine ⟨fun q hq => ?_, ?_⟩
      · obtain ⟨z, hz, rfl⟩ := List.mem_map.mp hq
        have hz' := (List.mem_filter.mp hz).1
        refine ⟨hz', mem_names.mpr ⟨Int.emod_nonneg _ (by omega), Int.emod_lt_of_pos _ (by omega)⟩⟩
      · rw [List.length_map]
        have := List.length_filter_le (fun _ => decide ((1 : Int) < n)) (names n)
        rw [names_len] at this
        omega
    · exact a1
  unfold way3
  split
  · refine ⟨fun q hq => ?_, by rw [List.length_map, names_len]; omega⟩
    obtain ⟨z, hz, rfl⟩ := List.mem_map.mp hq
    obtain ⟨z0, z1⟩ := mem_names.mp hz
    exact ⟨mem_names.mpr ⟨z0, by omega⟩, mem_names.mpr ⟨by show 0 ≤ z + 1; omega, by show z + 1 < (n : Int); omega⟩⟩
  · exact a2
theorem high_in {i : Int} (h0 : 0 ≤ i) (h1 : i < 3) : (1 : Int) ≤ [(1 : Int), 1, 2].getD i.toNat 0 ∧ [(1 : Int), 1, 2].getD i.toNat 0 ≤ 2 ∧ [PyData.int 1, .int 1, .int 2].getD i.toNat .none = .int ([(1 : Int), 1, 2].getD i.toNat 0) := by
  rcases (show i = 0 ∨ i = 1 ∨ i = 2 by omega) with rfl | rfl | rfl <;> exact ⟨by decide, by decide, rfl⟩
theorem webR_rw {most : Nat} (m1 : 1 ≤ most) (m2 : most ≤ 9) (s : Src) : Rw most (webR most s).1 := by
  have q1 := pick_in s (many := (most : Int)) (by omega)
  have q3 := pick_in (pick (pick s most).2 5).2 (many := 3) (by decide)
  have hh := high_in q3.1 q3.2
  have hn : (drR most s).n = (1 + (pick s most).1).toNat := rfl
  have hhi : (drR most s).high = [(1 : Int), 1, 2].getD (pick (pick (pick s most).2 5).2 3).1.toNat 0 := rfl
  rw [← hhi] at hh
  unfold webR
  generalize drR most s = d at hn hh
  have n1 : 1 ≤ d.n := by omega
  have n2 : d.n ≤ most := by omega
  obtain ⟨h1, h2⟩ := arrA_in (share := d.share) (n := d.n) (s := d.s) d.n (Nat.le_refl _)
  have h3 : d.n * d.n ≤ 9 * 9 := Nat.mul_le_mul (by omega) (by omega)
  obtain ⟨h4, h5⟩ := way_in (way := d.way) n1 (by omega) h1 (by omega)
  have h6 := onceP_le (way3 d.way d.n (way2 d.way d.n (way1 d.way (arrA d.share d.n d.s d.n).1)))
  exact ⟨n1, n2, runS_len _, fun c hc => by
    have := runS_in (by omega) d.n c hc
    omega, fun q hq => h4 q (mem_onceP.mp hq), onceP_nodup _⟩
def psWR (st : Src) (ds : List PyData) (d : PyData) (st' : Src) : Prop := ∃ most : Nat, 1 ≤ most ∧ most ≤ 9 ∧ ds = [.int most] ∧ d = wbD (webR most st).1 ∧ st' = (webR most st).2
abbrev nWR : List Str := ["source", "most", "n", "way", "high", "share", "arrows", "a", "b"]
theorem scWR : FnScope nWR ["source", "most"] (defScope s__law_web) := ⟨rfl, rfl, rfl, by decide +kernel, rfl, by decide +kernel, by decide +kernel⟩
def rowY (share a : Int) (s : Src) (b : Nat) : Option PyData := if a = (b : Int) then none else if (pick (rowA share a s b).2 4).1 < share then some (prD (a, (b : Int))) else none
theorem rowY_D (share a : Int) (s : Src) : ∀ m : Nat, (List.range m).filterMap (rowY share a s) = pD (rowA share a s m).1
  | 0 => rfl
  | m + 1 => by
    rw [fm_succ, rowY_D share a s m]
    unfold rowY
    rw [rowA]
    split
    · simp
    · dsimp only
      split
      · rw [pD_app, pD_eq [_]]; rfl
      · simp
/-! ### others -/
theorem names_mono {n m : Nat} (h : n ≤ m) {x : Int} (hx : x ∈ names n) : x ∈ names m := by
  obtain ⟨h1, h2⟩ := mem_names.mp hx
  exact mem_names.mpr ⟨h1, by omega⟩
section
variable {P : Program} {w : World} {K : PySem.W.Frag} {mg : Str → Option Value} {base : Heap}
end
end G

set_option Elab.async false
set_option linter.all false
set_option maxRecDepth 100000
set_option maxHeartbeats 4000000
/- drawn webs, and others to be held beside them, walked -/
namespace G
open PySem L2 PySem.Spec PyProof.Rows
theorem draw_L {many : Int} {s : Src} {n : Nat} : (runS many s n).1.map PyData.int = (List.range (rangeD 0 (n : Int).toNat).length).filterMap fun i => some (PyData.int (pick (runS many s i).2 many).1) := by
  rw [rangeD_len, Int.toNat_natCast]
  induction n with
  | zero => rfl
  | succ n ihn =>
    rw [fm_succ, ← ihn]
    show List.map _ ((runS _ _ n).1 ++ [_]) = _
    rw [List.map_append]
    rfl
section
variable {P : Program} {w : World} {K : PySem.W.Frag} {mg : Str → Option Value} {base : Heap}
theorem ok_wr {f f1 f2 f3 : Addr} {fd fd1 fd2 fd3 : FuncData} (D : Df K mg "_law_web" s__law_web f fd ["source", "most"]) (D1 : Df K mg "_law_pick" sPickB f1 fd1 ["source", "most"]) (D2 : Df K mg "_law_of" s__law_of f2 fd2 ["source", "some"]) (D3 : Df K mg "_law_told_web" s__law_told_web f3 fd3 ["n", "colors", "arrows"]) (T : Bt mg) : FnG P w K mg base 3 f fd ["source", "most"] (spS K psWR) := by
  have gP := ok_pickB (P := P) (w := w) (base := base) D1 T
  have gO := ok_of (P := P) (w := w) (base := base) D2 D1 T
  have gT := ok_tw (P := P) (w := w) (base := base) D3 T
  refine fnS_of D.fn scWR (fun st ds d st' ⟨_, _, _, e, _⟩ => by rw [e]; rfl) ?_
  rintro cdv A outer s H E sa s0 ds d st' hg hr_ ⟨most, m1, m2, rfl, rfl, rfl⟩
  have z1 : (100000 : Nat) ≤ sizeLine := by decide
  have q1 := pick_in s0 (many := (most : Int)) (by omega)
  have q3 := pick_in (pick (pick s0 most).2 5).2 (many := 3) (by decide)
  have hh := high_in q3.1 q3.2
  unfold webR
  have hd : drR most s0 = ⟨(1 + (pick s0 most).1).toNat, (pick (pick s0 most).2 5).1, [(1 : Int), 1, 2].getD (pick (pick (pick s0 most).2 5).2 3).1.toNat 0, (pick (pick (pick (pick s0 most).2 5).2 3).2 5).1, (pick (pick (pick (pick s0 most).2 5).2 3).2 5).2⟩ := rfl
  rw [hd]
  clear hd
  generalize hp1 : pick s0 most = p1 at q1 q3 hh ⊢
  obtain ⟨i1, s1⟩ := p1
  dsimp only at q1 q3 hh ⊢
  generalize hp2 : pick s1 5 = p2 at q3 hh ⊢
  obtain ⟨way, s2⟩ := p2
  dsimp only at q3 hh ⊢
  generalize hp3 : pick s2 3 = p3 at q3 hh ⊢
  obtain ⟨i3, s3⟩ := p3
  dsimp only at q3 hh ⊢
  generalize hp4 : pick s3 5 = p4
  obtain ⟨share, s4⟩ := p4
  dsimp only
  obtain ⟨n, hn⟩ : ∃ n : Nat, 1 + i1 = (n : Int) := ⟨(1 + i1).toNat, by omega⟩
  rw [hn, Int.toNat_natCast]
  have n1 : 1 ≤ n := by omega
  have n9 : n ≤ 9 := by omega
  generalize [(1 : Int), 1, 2].getD i3.toNat 0 = high at hh ⊢
  unfold finR
  dsimp only
  -- n, way
  refine ⟨List.replicate 9 .un |>.set 0 (.o (.src sa (runS high (arrA share n s4 n).2 n).2)), rfl, ?_⟩
  refine db_rtW (ρ1 := [.o (.src sa (runS high (arrA share n s4 n).2 n).2), .d (.int most), .d (.int n), .d (.int way), .d (.int high), .d (.int share), .d (.list (pD (way3 way n (way2 way n (way1 way (arrA share n s4 n).1))))), .un, .un]) ?_ (by show Wk [.o (.src sa (runS high (arrA share n s4 n).2 n).2), .d (.int most), .d (.int n), .d (.int way), .d (.int high), .d (.int share), .d (.list (pD (way3 way n (way2 way n (way1 way (arrA share n s4 n).1))))), .un, .un] [.o (.src sa (runS high (arrA share n s4 n).2 n).2), .un, .un, .un, .un, .un, .un, .un, .un]; first | exact G.Wk.refl _ | (repeat (first | exact G.Wk.nil | apply G.Wk.cons | apply G.Wk.drop)))
  refine db_cons (ds_asg (d := .tuple [.int n, .int way]) (js := [2, 3]) (ρ1 := [.o (.src sa s2), .d (.int most), .un, .un, .un, .un, .un, .un, .un]) (de_tup (da_cons (de_is (de_add de_int (de_callS (i := 0) gP hg (hr_.mono (by omega)) D1.mg D1.kp D1.bd (ds := [.int most]) (d := .int i1) (sr' := s1) ⟨most, by omega, rfl, by rw [hp1], by rw [hp1]⟩ (ow 0) (da_cons (nv 1) da_nil))) (by rw [hn])) (da_cons (de_callS (i := 0) gP hg (hr_.mono (by omega)) D1.mg D1.kp D1.bd (ds := [.int 5]) (d := .int way) (sr' := s2) ⟨5, by decide, rfl, by rw [hp2], by rw [hp2]⟩ (ow 0) (da_cons de_int da_nil)) da_nil))) (dg_tup rfl (dgs_cons (dg_name (i := 2) scWR.nd) (dgs_cons (dg_name (i := 3) scWR.nd) dgs_nil)))) ?_
  refine db_at [.o (.src sa s2), .d (.int most), .d (.int n), .d (.int way), .un, .un, .un, .un, .un] rfl ?_
  refine db_cons (ds_asg (d := .tuple [.int high, .int share, .list (pD [])]) (js := [4, 5, 6]) (ρ1 := [.o (.src sa s4), .d (.int most), .d (.int n), .d (.int way), .un, .un, .un, .un, .un]) (de_tup (da_cons (de_callS (i := 0) gO hg (hr_.mono (by omega)) D2.mg D2.kp D2.bd (ds := [.list [.int 1, .int 1, .int 2]]) (d := .int high) (sr' := s3) ⟨[.int 1, .int 1, .int 2], by decide, by decide, rfl, by show _ = [PyData.int 1, .int 1, .int 2].getD (pick s2 3).1.toNat .none; rw [hp3]; exact hh.2.2.symm, by show _ = (pick s2 3).2; rw [hp3]⟩ (ow 0) (da_cons (DL.de (dl_lst (da_cons de_int (da_cons de_int (da_cons de_int da_nil))))) da_nil)) (da_cons (de_callS (i := 0) gP hg (hr_.mono (by omega)) D1.mg D1.kp D1.bd (ds := [.int 5]) (d := .int share) (sr' := s4) ⟨5, by decide, rfl, by rw [hp4], by rw [hp4]⟩ (ow 0) (da_cons de_int da_nil)) (da_cons (DL.de (dl_lst (xs := []) da_nil)) da_nil)))) (dg_tup rfl (dgs_cons (dg_name (i := 4) scWR.nd) (dgs_cons (dg_name (i := 5) scWR.nd) (dgs_cons (dg_name (i := 6) scWR.nd) dgs_nil))))) ?_
  refine db_at [.o (.src sa (arrA share n s4 0).2), .d (.int most), .d (.int n), .d (.int way), .d (.int high), .d (.int share), .d (.list (pD ((arrA share n s4 0).1))), .un, .un] rfl ?_
  -- arrows
  refine db_cons (ds_for PassesOwn.never rfl (di_names (n := n) T.range_ (by omega) (nv 2)) (fun a => [.o (.src sa (arrA share n s4 a).2), .d (.int most), .d (.int n), .d (.int way), .d (.int high), .d (.int share), .d (.list (pD ((arrA share n s4 a).1))), .un, .un]) (Wk.refl _) (fun a z hz => ?_) (ρ2 := [.o (.src sa (arrA share n s4 n).2), .d (.int most), .d (.int n), .d (.int way), .d (.int high), .d (.int share), .d (.list (pD ((arrA share n s4 n).1))), .un, .un]) (by rw [List.length_map, names_len])) ?_
  · rw [← names_D] at hz
    obtain ⟨ha, rfl⟩ := range_get hz
    have la := (arrA_in (share := share) (n := n) (s := s4) a (by omega)).2
    have lr := (rowA_in (share := share) (a := (a : Int)) (s := (arrA share n s4 a).2) ((mem_names (n := n)).mpr ⟨by omega, by omega⟩) n (Nat.le_refl _)).2
    have aa : a * n ≤ 9 * 9 := Nat.mul_le_mul (by omega) n9
    refine ⟨_, _, dg_name (i := 7) scWR.nd, ?_⟩
    show DB _ _ _ (.nx [.o (.src sa (rowA share a (arrA share n s4 a).2 n).2), .d (.int most), .d (.int n), .d (.int way), .d (.int high), .d (.int share), .d (.list (pD ((arrA share n s4 a).1 ++ (rowA share a (arrA share n s4 a).2 n).1))), .un, .un])
    generalize arrA share n s4 a = xa at la lr ⊢
    obtain ⟨l, t⟩ := xa
    dsimp only at la lr ⊢
    refine db_at [.o (.src sa t), .d (.int most), .d (.int n), .d (.int way), .d (.int high), .d (.int share), .d (.list (pD (l))), .d (.int a), .un] rfl ?_
    refine db_nx (ds_set (i := 6) (y := .list (pD (l ++ (rowA share a t n).1))) (ρ1 := [.o (.src sa (rowA share a t n).2), .d (.int most), .d (.int n), .d (.int way), .d (.int high), .d (.int share), .d (.list (pD (l))), .d (.int a), .un]) scWR.nd (DL.de (dl_is (pD_app _ _).symm (dl_catS (xs := pD l) (ys := pD (rowA share a t n).1) (by rw [pD_len, pD_len]; omega) .d .d (nv 6) (DL.de (dl_is (rowY_D share a t n) (dl_is ?_ (dl_lc (own := [("b", 8)]) rfl scWR.nd (blkOk_by (N := nWR) (sc := defScope s__law_web) (by decide +kernel)) (di_range (n := (n : Int)) T.range_ (by omega) (da_cons (nv 2) da_nil))
      (fun b => [.o (.src sa (rowA share a t b).2), .d (.int most), .d (.int n), .d (.int way), .d (.int high), .d (.int share), .d (.list (pD (l))), .d (.int a), .un]) (rowY share a t) (fun b y hy => ?_) (Wk.refl _) (fun b => Wk.refl _) (ρ' := [.o (.src sa (rowA share a t n).2), .d (.int most), .d (.int n), .d (.int way), .d (.int high), .d (.int share), .d (.list (pD (l))), .d (.int a), .un]) ?_ ?_)))))))) (by first | exact G.Wk.refl _ | (repeat (first | exact G.Wk.nil | apply G.Wk.cons | apply G.Wk.drop)))
    · rw [rangeD_len, Int.toNat_natCast]
    · obtain ⟨hb, rfl⟩ := range_get hy
      show LcT _ _ _ _ _ _ _ _ (if (a : Int) = (b : Int) then none else if (pick (rowA share a t b).2 4).1 < share then some (prD ((a : Int), (b : Int))) else none) [.o (.src sa (rowA share a t (b + 1)).2), .d (.int most), .d (.int n), .d (.int way), .d (.int high), .d (.int share), .d (.list (pD (l))), .d (.int a), .un]
      have er : (rowA share a t (b + 1)).2 = if (a : Int) = (b : Int) then (rowA share a t b).2 else (pick (rowA share a t b).2 4).2 := by
        rw [rowA]; split <;> rfl
      rw [er]
      generalize (rowA share a t b).2 = u
      by_cases c : (a : Int) = (b : Int)
      · rw [if_pos c, if_pos c]
        exact LcT.iff (z := .none) (ρe := []) (b := false) (js := [8]) (by simp) (fun _ _ _ _ _ => dg_name (i := 8) scWR.nd) (fun _ _ _ _ _ => DW.dt (dw_andF (dt_is (dt_neI (nv 7) (nv 8)) (by rw [decide_eq_true c]; rfl)))) (fun e => nomatch e) (fun e => nomatch e) (fun _ => by first | exact G.Wk.refl _ | (repeat (first | exact G.Wk.nil | apply G.Wk.cons | apply G.Wk.drop)))
      · rw [if_neg c, if_neg c]
        generalize hpp : pick u 4 = pp
        obtain ⟨v, u'⟩ := pp
        dsimp only
        have ei : (if v < share then some (prD ((a : Int), (b : Int))) else none) = (if (decide (v < share)) = true then some (prD ((a : Int), (b : Int))) else none) := by
          by_cases c : v < share <;> simp [c]
        rw [ei]
        exact LcT.iff (b := decide (v < share)) (js := [8]) (by simp) (fun _ _ _ _ _ => dg_name (i := 8) scWR.nd) (fun _ _ _ _ _ => DW.dt (dw_andT (dt_is (dt_neI (nv 7) (nv 8)) (by rw [decide_eq_false c]; rfl)) (dw_and1 (dt_lt (de_callS (i := 0) gP hg (hr_.mono (by omega)) D1.mg D1.kp D1.bd (ds := [.int 4]) (d := .int v) (sr' := u') ⟨4, by decide, rfl, by rw [hpp], by rw [hpp]⟩ (ow 0) (da_cons de_int da_nil)) (nv 5))))) (fun _ _ _ _ _ _ => de_tup (da_cons (nv 7) (da_cons (nv 8) da_nil))) (fun _ => by first | exact G.Wk.refl _ | (repeat (first | exact G.Wk.nil | apply G.Wk.cons | apply G.Wk.drop))) (fun _ => by first | exact G.Wk.refl _ | (repeat (first | exact G.Wk.nil | apply G.Wk.cons | apply G.Wk.drop)))
    · rw [rangeD_len, Int.toNat_natCast]
      exact mrg_un rfl (by (intro j hj; first | (cases hj with | head => rfl | tail _ h => cases h) | (cases hj with | head => rfl | tail _ h => cases h with | head => rfl | tail _ h => cases h) | (cases hj with | head => rfl | tail _ h => cases h with | head => rfl | tail _ h => cases h with | head => rfl | tail _ h => cases h)))
    · rw [rangeD_len, Int.toNat_natCast]
      omega
  obtain ⟨iA, lA⟩ := arrA_in (share := share) (n := n) (s := s4) n (Nat.le_refl _)
  have nn : n * n ≤ 9 * 9 := Nat.mul_le_mul n9 n9
  generalize arrA share n s4 n = xa at iA lA ⊢
  obtain ⟨l, t⟩ := xa
  dsimp only at iA lA ⊢
  have wi := way_in (way := way) n1 n9 iA (by omega)
  -- ways
  refine db_cons (ρ1 := [.o (.src sa t), .d (.int most), .d (.int n), .d (.int way), .d (.int high), .d (.int share), .d (.list (pD (way1 way l))), .un, .un]) ?_ ?_
  · unfold way1
    by_cases c : way = 1
    · rw [if_pos c]
      refine ds_ifT (dt_eqIt c (nv 3) de_int) (db_nx (ds_set (i := 6) (y := .list (pD (l ++ l.map fun q => (q.2, q.1)))) scWR.nd (DL.de (dl_is (pD_app _ _).symm (dl_catS (xs := pD l) (ys := pD (l.map fun q => (q.2, q.1))) (by rw [pD_len, pD_len, List.length_map]; omega) .d .d (nv 6) (DL.de (dl_is ?_ (dl_mapA l prD (fun q => prD (q.2, q.1)) [("a", 7), ("b", 8)] rfl scWR.nd (blkOk_by (N := nWR) (sc := defScope s__law_web) (by decide +kernel)) (by rw [← pD_eq]; exact di_list (nv 6)) (by (intro j hj; first | (cases hj with | head => rfl | tail _ h => cases h) | (cases hj with | head => rfl | tail _ h => cases h with | head => rfl | tail _ h => cases h) | (cases hj with | head => rfl | tail _ h => cases h with | head => rfl | tail _ h => cases h with | head => rfl | tail _ h => cases h))) (fun q hq => ?_) (by omega)))))))) (by first | exact G.Wk.refl _ | (repeat (first | exact G.Wk.nil | apply G.Wk.cons | apply G.Wk.drop))))
      · rw [pD_eq, List.map_map]; rfl
      · exact ⟨_, _, _, fun _ _ _ _ _ => dg_tup rfl (dgs_cons (dg_name (i := 7) scWR.nd) (dgs_cons (dg_name (i := 8) scWR.nd) dgs_nil)), fun _ _ _ _ _ => de_tup (da_cons (nv 8) (da_cons (nv 7) da_nil)), by simp, by first | exact G.Wk.refl _ | (repeat (first | exact G.Wk.nil | apply G.Wk.cons | apply G.Wk.drop))⟩
    · rw [if_neg c]
      exact ds_ifF (dt_eqIf c (nv 3) de_int) db_nil
  generalize way1 way l = l1 at wi ⊢
  refine db_cons (ρ1 := [.o (.src sa t), .d (.int most), .d (.int n), .d (.int way), .d (.int high), .d (.int share), .d (.list (pD (way2 way n l1))), .un, .un]) ?_ ?_
  · unfold way2
    by_cases c : way = 2
    · rw [if_pos c]
      refine ds_ifT (dt_eqIt c (nv 3) de_int) (db_cons (ds_setFiltA (i := 6) (names n) .int (fun a => prD (a, (a + 1) % (n : Int))) (fun _ => decide ((1 : Int) < n)) [("a", 7)] rfl scWR.nd (blkOk_by (N := nWR) (sc := defScope s__law_web) (by decide +kernel)) (di_names T.range_ (by omega) (nv 2)) (by (intro j hj; first | (cases hj with | head => rfl | tail _ h => cases h) | (cases hj with | head => rfl | tail _ h => cases h with | head => rfl | tail _ h => cases h) | (cases hj with | head => rfl | tail _ h => cases h with | head => rfl | tail _ h => cases h with | head => rfl | tail _ h => cases h))) (fun x hx => ?_) (by rw [names_len]; omega)) ?_)
      · exact ⟨_, _, _, _, fun _ _ _ _ _ => dg_name (i := 7) scWR.nd, fun _ _ _ _ _ => dt_gt (nv 2) de_int, fun _ _ _ _ _ _ => de_tup (xs := [.int x, .int ((x + 1) % (n : Int))]) (da_cons (nv 7) (da_cons (de_mod (by omega) (de_intI T.int_ (de_add (nv 7) de_int)) (nv 2)) da_nil)), by simp, by first | exact G.Wk.refl _ | (repeat (first | exact G.Wk.nil | apply G.Wk.cons | apply G.Wk.drop)), by first | exact G.Wk.refl _ | (repeat (first | exact G.Wk.nil | apply G.Wk.cons | apply G.Wk.drop))⟩
      · refine db_still (i := 6) (xs := ((names n).filter fun _ => decide ((1 : Int) < n)).map fun a => prD (a, (a + 1) % (n : Int))) ?_
        refine db_end ?_
        rw [pD_eq (List.map (fun a => (a, (a + 1) % (n : Int))) _), List.map_map]
        exact Wk.refl _
    · rw [if_neg c]
      exact ds_ifF (dt_eqIf c (nv 3) de_int) db_nil
  generalize way2 way n l1 = l2 at wi ⊢
  refine db_cons (ρ1 := [.o (.src sa t), .d (.int most), .d (.int n), .d (.int way), .d (.int high), .d (.int share), .d (.list (pD (way3 way n l2))), .un, .un]) ?_ ?_
  · unfold way3
    by_cases c : way = 3
    · rw [if_pos c]
      refine ds_ifT (dt_eqIt c (nv 3) de_int) (db_cons (ds_setMapA (i := 6) (names (n - 1)) .int (fun a => prD (a, a + 1)) [("a", 7)] rfl scWR.nd (blkOk_by (N := nWR) (sc := defScope s__law_web) (by decide +kernel)) (di_names T.range_ (by omega) (de_is (de_sub (nv 2) de_int) (by congr 1; omega))) (by (intro j hj; first | (cases hj with | head => rfl | tail _ h => cases h) | (cases hj with | head => rfl | tail _ h => cases h with | head => rfl | tail _ h => cases h) | (cases hj with | head => rfl | tail _ h => cases h with | head => rfl | tail _ h => cases h with | head => rfl | tail _ h => cases h))) (fun x hx => ?_) (by rw [names_len]; omega)) ?_)
      · exact ⟨_, _, _, fun _ _ _ _ _ => dg_name (i := 7) scWR.nd, fun _ _ _ _ _ => de_tup (xs := [.int x, .int (x + 1)]) (da_cons (nv 7) (da_cons (de_add (nv 7) de_int) da_nil)), by simp, by first | exact G.Wk.refl _ | (repeat (first | exact G.Wk.nil | apply G.Wk.cons | apply G.Wk.drop))⟩
      · refine db_still (i := 6) (xs := (names (n - 1)).map fun a => prD (a, a + 1)) ?_
        refine db_end ?_
        rw [pD_eq (List.map (fun a => (a, a + 1)) _), List.map_map]
        exact Wk.refl _
    · rw [if_neg c]
      exact ds_ifF (dt_eqIf c (nv 3) de_int) db_nil
  generalize way3 way n l2 = l3 at wi ⊢
  have cl := runS_len (many := high) (s := t) n
  have ew := draw_L (many := high) (s := t) (n := n)
  generalize hr : runS high t n = pr at cl ew ⊢
  obtain ⟨cs, u⟩ := pr
  dsimp only at cl ew ⊢
  refine db_one (ds_ret (de_callP gT hg (hr_.mono (by omega)) D3.mg D3.kp D3.bd (ρ1 := [.o (.src sa u), .d (.int most), .d (.int n), .d (.int way), .d (.int high), .d (.int share), .d (.list (pD (l3))), .un, .un]) (ds := [.int n, .list (cs.map .int), .list (pD l3)]) (d := wbD ⟨n, cs, onceP l3⟩) ⟨n, cs, l3, _, .inl rfl, by omega, rfl, rfl⟩ (da_cons (nv 2) (da_cons (DL.de (dl_is ew.symm (dl_lc (own := [("a", 7)]) rfl scWR.nd (blkOk_by (N := nWR) (sc := defScope s__law_web) (by decide +kernel)) (di_range (n := (n : Int)) T.range_ (by omega) (da_cons (nv 2) da_nil)) (fun i => [.o (.src sa (runS high t i).2), .d (.int most), .d (.int n), .d (.int way), .d (.int high), .d (.int share), .d (.list (pD (l3))), .un, .un]) (fun i => some (PyData.int (pick (runS high t i).2 high).1)) (fun i x hx => ?_) (Wk.refl _) (fun i => Wk.refl _) (ρ' := [.o (.src sa u), .d (.int most), .d (.int n), .d (.int way), .d (.int high), .d (.int share), .d (.list (pD (l3))), .un, .un]) ?_ ?_))) (da_cons (nv 6) da_nil)))))
  · exact LcT.map (js := [7]) (by simp) (fun _ _ _ _ _ => dg_name (i := 7) scWR.nd) (fun _ _ _ _ _ => de_callS (i := 0) gP hg (hr_.mono (by omega)) D1.mg D1.kp D1.bd (ds := [.int high]) ⟨high, by omega, rfl, rfl, rfl⟩ (ow 0) (da_cons (nv 4) da_nil)) (by first | exact G.Wk.refl _ | (repeat (first | exact G.Wk.nil | apply G.Wk.cons | apply G.Wk.drop)))
  · rw [rangeD_len, Int.toNat_natCast, hr]
    exact mrg_un rfl (by (intro j hj; first | (cases hj with | head => rfl | tail _ h => cases h) | (cases hj with | head => rfl | tail _ h => cases h with | head => rfl | tail _ h => cases h) | (cases hj with | head => rfl | tail _ h => cases h with | head => rfl | tail _ h => cases h with | head => rfl | tail _ h => cases h)))
  · rw [rangeD_len, Int.toNat_natCast]
    omega
end
end G

set_option Elab.async false
set_option linter.all false
set_option maxRecDepth 100000
set_option maxHeartbeats 4000000
/- rules; what may be shown; the game, as mathematics -/
namespace G
open PySem L2 PySem.Spec PyProof.Rows
section
variable {X : Cx} {ρ ρ1 ρ2 ρ3 : Env'} {a b c e : Expr} {pos : Pos}
theorem de_isN {x : PyData} {j pos'} (ha : DE X ρ a (.d x) ρ1) : DE X ρ (.Compare a [.Is] [.Constant .none j pos'] pos) (.d (.bool (isNon x))) ρ1 :=
  de_cmp op_isN (fun F Z B H σ Q v1 v2 k w1 w2 q => by
    cases w2
    exact ⟨rfl, q _ B H k (Sub.refl B) (by rw [dp_non w1]; exact .bl _)⟩) (nomark _) ha de_non
/-- a < b <= c, whole numbers -/
theorem de_between2 {i j k : Int} (ha : DE X ρ a (.d (.int i)) ρ1) (hb : DE X ρ1 b (.d (.int j)) ρ2) (hc : DE X ρ2 c (.d (.int k)) ρ2) (hm : lastMarks [.Lt, .LtE] [b, c] = false := by with_unfolding_all rfl) :
    DE X ρ (.Compare a [.Lt, .LtE] [b, c] pos) (.d (.bool (decide (i < j) && decide (j ≤ k)))) ρ2 := fun F Z B H σ Q kk w =>
  ⟨_, pe_chain op_lt op_le pe_s pe_s pe_s hm, ha F Z B H σ _ kk fun v1 B1 H1 k1 x1 w1 => hb F Z B1 H1 σ _ k1 fun v2 B2 H2 k2 x2 w2 => by
    have d1 : Dp X.K B1 v1 (.int i) := w1
    have d2 : Dp X.K B2 v2 (.int j) := w2
    cases d1
    cases d2
    refine ⟨i, j, rfl, rfl, decide (i < j), rfl, ?_⟩
    by_cases hij : i < j
    · rw [if_pos (decide_eq_true hij)]
      refine hc F Z B2 H2 σ _ k2 fun v3 B3 H3 k3 x3 w3 => ?_
      have d3 : Dp X.K B3 v3 (.int k) := w3
      cases d3
      exact ⟨j, k, rfl, rfl, w _ B3 H3 k3 ((x1.trans x2).trans x3) (by rw [decide_eq_true hij, Bool.true_and]; exact .bl _)⟩
    · rw [if_neg (by simpa using hij)]
      exact w _ B2 H2 k2 (x1.trans x2) (by rw [decide_eq_false hij, Bool.false_and]; exact .bl _)⟩
theorem dt_between2 {i j k : Int} (ha : DE X ρ a (.d (.int i)) ρ1) (hb : DE X ρ1 b (.d (.int j)) ρ2) (hc : DE X ρ2 c (.d (.int k)) ρ2) (hm : lastMarks [.Lt, .LtE] [b, c] = false := by with_unfolding_all rfl) :
    DT X ρ (.Compare a [.Lt, .LtE] [b, c] pos) (decide (i < j) && decide (j ≤ k)) ρ2 := fun F Z B H σ Q kk w =>
  ⟨_, pt_chain op_lt op_le pe_s pe_s pe_s hm, ha F Z B H σ _ kk fun v1 B1 H1 k1 x1 w1 => hb F Z B1 H1 σ _ k1 fun v2 B2 H2 k2 x2 w2 => by
    have d1 : Dp X.K B1 v1 (.int i) := w1
    have d2 : Dp X.K B2 v2 (.int j) := w2
    cases d1
    cases d2
    refine ⟨i, j, rfl, rfl, decide (i < j), rfl, ?_⟩
    by_cases hij : i < j
    · rw [if_pos (decide_eq_true hij)]
      refine hc F Z B2 H2 σ _ k2 fun v3 B3 H3 k3 x3 w3 => ?_
      have d3 : Dp X.K B3 v3 (.int k) := w3
      cases d3
      exact ⟨j, k, rfl, rfl, decide (j ≤ k), rfl, by
        have := w B3 H3 k3 ((x1.trans x2).trans x3)
        rw [decide_eq_true hij, Bool.true_and] at this
        exact this⟩
    · rw [if_neg (by simpa using hij)]
      exact ⟨false, rfl, by
        have := w B2 H2 k2 (x1.trans x2)
        rw [decide_eq_false hij, Bool.false_and] at this
        exact this⟩⟩
end
/-! ### lists that may be shown -/
theorem sh_list {xs : List PyData} {m : Nat} (h : ∀ x ∈ xs, x.showable = true ∧ x.depth ≤ 63 ∧ x.shown.length ≤ m) (hz : xs.length * (m + 2) + 3 ≤ sizeLine) : Sh (.list xs) := by
  refine ⟨?_, ?_, ?_⟩
  · simp only [PyData.showable]
    exact bd_sh fun x hx => (h x hx).1
  · have := bd_dp fun x hx => (h x hx).2.1
    simp only [PyData.depth]
    omega
  · have h1 := listText_len_le (PyData.shownAll xs)
    have h2 : ((PyData.shownAll xs).map (·.length)).sum ≤ xs.length * m := by
      clear hz h1
      induction xs with
      | nil => simp [PyData.shownAll]
      | cons x xs ih =>
        have q := (h x List.mem_cons_self).2.2
        have q2 := ih fun y hy => h y (List.mem_cons_of_mem _ hy)
        simp only [PyData.shownAll, List.map_cons, List.sum_cons, List.length_cons, Nat.succ_mul]
        omega
    have h3 : (PyData.shownAll xs).length = xs.length := by
      clear h hz h1 h2
      induction xs with
      | nil => simp [PyData.shownAll]
      | cons x xs ih => simp only [PyData.shownAll, List.length_cons, ih]
    have e : (PyData.list xs).shown = listText (PyData.shownAll xs) := by simp only [PyData.shown]
    rw [e]
    rw [h3] at h1
    have h4 : xs.length * (m + 2) = xs.length * m + 2 * xs.length := by rw [Nat.mul_add, Nat.mul_comm _ 2]
    omega
theorem web_bd {m : Nat} {W : Wb} (h : Rw m W) (hm : m ≤ 9) : Bd 30000 3 (wbD W) := by
  have hi := h.hi
  refine bd_web ⟨(h.dg hm).ok, by omega, h.col, fun p hp => ?_, Nat.le_trans (h.la hm) (by decide)⟩
  obtain ⟨h1, h2⟩ := h.ins p hp
  obtain ⟨a1, a2⟩ := mem_names.mp h1
  obtain ⟨b1, b2⟩ := mem_names.mp h2
  omega
/-! ### webs alike, rows kept -/
theorem gAt_names {n : Nat} {x : Int} (hx : x ∈ names n) : gAt (names n) x.toNat = x := by
  obtain ⟨h1, h2⟩ := mem_names.mp hx
  unfold gAt names
  rw [List.getD_eq_getElem?_getD, List.getElem?_map, List.getElem?_range (by omega)]
  show ((x.toNat : Nat) : Int) = x
  omega
theorem gAt_mem {a : List Int} {i : Nat} (hi : i < a.length) : gAt a i ∈ a := by
  unfold gAt
  rw [List.getD_eq_getElem?_getD, List.getElem?_eq_getElem hi]
  exact List.getElem_mem hi
theorem gAt_fmap (f : Int → Int) (a : List Int) {i : Nat} (hi : i < a.length) : gAt (a.map f) i = f (gAt a i) := by
  unfold gAt
  rw [List.getD_eq_getElem?_getD, List.getD_eq_getElem?_getD, List.getElem?_map, List.getElem?_eq_getElem hi]; rfl
theorem names_nd (n : Nat) : (names n).Nodup := by
  unfold names
  refine List.pairwise_map.mpr (List.Pairwise.imp (fun h e => h ?_) List.nodup_range)
  exact Int.ofNat.inj e
theorem covers {n : Nat} {b : List Int} (hl : b.length = n) (nd : b.Nodup) (hb : ∀ y ∈ b, y ∈ names n) {y : Int} (hy : y ∈ names n) : y ∈ b := by
  refine Classical.byContradiction fun no => ?_
  have := nodup_le (l := y :: b) (m := names n) (List.nodup_cons.mpr ⟨no, nd⟩) fun x hx => by
    rcases List.mem_cons.mp hx with rfl | hx
    · exact hy
    · exact hb x hx
  rw [names_len, List.length_cons] at this
  omega
theorem mem_at {b : List Int} {y : Int} (h : y ∈ b) : ∃ i, i < b.length ∧ gAt b i = y := by
  obtain ⟨i, hi, e⟩ := List.getElem_of_mem h
  refine ⟨i, hi, ?_⟩
  unfold gAt
  rw [List.getD_eq_getElem?_getD, List.getElem?_eq_getElem hi]
  exact e
theorem kept_iso {W V : Wb} {b : List Int} (hn : W.n = V.n) (hl : b.length = W.n) (nd : b.Nodup) (hb : ∀ y ∈ b, y ∈ names V.n) (hs : sameB W (names W.n) V b = true) : ∀ (r : Nat) (a : List Int), (∀ x ∈ a, x ∈ names W.n) → keptB W V r a (a.map fun x => gAt b x.toNat) = true := by
  have hs := sameB_iff.mp hs
  rw [names_len] at hs
  have lt : ∀ {x : Int}, x ∈ names W.n → x.toNat < W.n := fun {x} hx => by have := mem_names.mp hx; omega
  have same : ∀ a : List Int, (∀ x ∈ a, x ∈ names W.n) → sameB W a V (a.map fun x => gAt b x.toNat) = true := fun a ha => by
    refine sameB_iff.mpr fun i hi => ?_
    have mi := ha _ (gAt_mem hi)
    obtain ⟨h1, h2⟩ := hs (gAt a i).toNat (lt mi)
    rw [gAt_names mi] at h1
    rw [gAt_fmap _ _ hi]
    refine ⟨h1, fun j hj => ?_⟩
    have mj := ha _ (gAt_mem hj)
    have q := h2 (gAt a j).toNat (lt mj)
    rw [gAt_names mi, gAt_names mj] at q
    rw [gAt_fmap _ _ hj]
    exact q
  intro r
  induction r with
  | zero => exact same
  | succ r ih =>
    intro a ha
    have step : ∀ x ∈ names W.n, keptB W V r (a ++ [x]) ((a.map fun x => gAt b x.toNat) ++ [gAt b x.toNat]) = true := fun x hx => by
      have := ih (a ++ [x]) fun z hz => by
        rcases List.mem_append.mp hz with hz | hz
        · exact ha z hz
        · rw [List.mem_singleton.mp hz]; exact hx
      rw [List.map_append] at this
      exact this
    refine kept_succ.mpr ⟨same a ha, fun x hx => ⟨gAt b x.toNat, hb _ (gAt_mem (by have := lt hx; omega)), step x hx⟩, fun y hy => ?_⟩
    obtain ⟨i, hi, e⟩ := mem_at (covers (hl.trans hn) nd hb hy)
    have hx : (i : Int) ∈ names W.n := mem_names.mpr ⟨by omega, by omega⟩
    have := step i hx
    rw [Int.toNat_natCast, e] at this
    exact ⟨i, hx, this⟩
theorem kept_forth {W V : Wb} {r : Nat} : ∀ (xs a b : List Int), (∀ x ∈ xs, x ∈ names W.n) → keptB W V (r + xs.length) a b = true → ∃ ys : List Int, ys.length = xs.length ∧ (∀ y ∈ ys, y ∈ names V.n) ∧ keptB W V r (a ++ xs) (b ++ ys) = true
  | [], a, b, _, h => ⟨[], rfl, fun _ z => (nomatch z), by rw [List.append_nil, List.append_nil]; exact h⟩
  | x :: xs, a, b, hx, h => by
    obtain ⟨_, h2, _⟩ := kept_succ.mp (show keptB W V ((r + xs.length) + 1) a b = true from h)
    obtain ⟨y, hy, q⟩ := h2 x (hx x List.mem_cons_self)
    obtain ⟨ys, l1, l2, l3⟩ := kept_forth xs (a ++ [x]) (b ++ [y]) (fun z hz => hx z (List.mem_cons_of_mem _ hz)) q
    refine ⟨y :: ys, by simp [l1], fun z hz => ?_, ?_⟩
    · rcases List.mem_cons.mp hz with rfl | hz
      · exact hy
      · exact l2 z hz
    · rw [List.append_assoc, List.append_assoc] at l3
      exact l3
theorem same_symm {W V : Wb} {a b : List Int} (hl : a.length = b.length) (h : sameB W a V b = true) : sameB V b W a = true := by
  have h := sameB_iff.mp h
  refine sameB_iff.mpr fun i hi => ⟨(h i (by omega)).1.symm, fun j hj => ?_⟩
  obtain ⟨q1, q2⟩ := (h i (by omega)).2 j (by omega)
  exact ⟨q1.symm, q2.symm⟩
theorem kept_symm {W V : Wb} : ∀ (r : Nat) (a b : List Int), a.length = b.length → keptB W V r a b = true → keptB V W r b a = true
  | 0, a, b, hl, h => same_symm hl h
  | r + 1, a, b, hl, h => by
    obtain ⟨h1, h2, h3⟩ := kept_succ.mp h
    exact kept_succ.mpr ⟨same_symm hl h1, fun y hy => let ⟨x, hx, q⟩ := h3 y hy; ⟨x, hx, kept_symm r _ _ (by simp [hl]) q⟩, fun x hx => let ⟨y, hy, q⟩ := h2 x hx; ⟨y, hy, kept_symm r _ _ (by simp [hl]) q⟩⟩
theorem kept_swap (W V : Wb) (r : Nat) : keptB W V r [] [] = keptB V W r [] [] := by
  rw [Bool.eq_iff_iff]
  exact ⟨kept_symm r _ _ rfl, kept_symm r _ _ rfl⟩
theorem gAt_left {a c : List Int} {i : Nat} (hi : i < a.length) : gAt (a ++ c) i = gAt a i := by
  unfold gAt
  rw [List.getD_eq_getElem?_getD, List.getD_eq_getElem?_getD, List.getElem?_append_left hi]
theorem gAt_last (a : List Int) (x : Int) : gAt (a ++ [x]) a.length = x := by
  unfold gAt
  rw [List.getD_eq_getElem?_getD, List.getElem?_append_right (Nat.le_refl _)]
  simp
theorem kept_third {W V U : Wb} (hW : Dg W) (hV : Dg V) (hU : Dg U) {r : Nat} (hr : r ≤ 10) (h : keptB W V r [] [] = true) : keptB V U r [] [] = keptB W U r [] [] := by
  have e := (ty_kept hW hV r [] [] rfl (by simpa using hr)).mpr h
  rw [Bool.eq_iff_iff, ← ty_kept hV hU r [] [] rfl (by simpa using hr), ← ty_kept hW hU r [] [] rfl (by simpa using hr), e]
end G

set_option Elab.async false
set_option linter.all false
set_option maxRecDepth 100000
set_option maxHeartbeats 4000000
/- rows kept in parts are kept in sums: mathematics -/
namespace G
open PySem PySem.Spec PyProof.Rows
def shI (n : Nat) (q : Int × Int) : Int × Int := ((n : Int) + q.1, (n : Int) + q.2)
def ahL (n m : Nat) : List (Int × Int) := (names n).flatMap fun x => (names m).map fun y => (x, (n : Int) + y)
def sumA (ah : Bool) (W V : Wb) : List (Int × Int) := W.arr ++ V.arr.map (shI W.n) ++ (if ah = true then ahL W.n V.n else [])
def sumW (ah : Bool) (W V : Wb) : Wb := ⟨W.n + V.n, W.col ++ V.col, srtP (sumA ah W V)⟩
theorem mem_ahL {n m : Nat} {x y : Int} : (x, y) ∈ ahL n m ↔ x ∈ names n ∧ ∃ z ∈ names m, y = (n : Int) + z := by
  unfold ahL
  rw [List.mem_flatMap]
  constructor
  · rintro ⟨u, hu, h⟩
    obtain ⟨v, hv, e⟩ := List.mem_map.mp h
    injection e with e1 e2
    subst e1
    exact ⟨hu, v, hv, e2.symm⟩
  · rintro ⟨hx, z, hz, rfl⟩
    exact ⟨x, hx, List.mem_map.mpr ⟨z, hz, rfl⟩⟩
theorem names_sum {n m : Nat} {x : Int} : x ∈ names (n + m) ↔ x ∈ names n ∨ ∃ y ∈ names m, x = (n : Int) + y := by
  rw [mem_names, mem_names]
  constructor
  · rintro ⟨h1, h2⟩
    by_cases c : x < n
    · exact .inl ⟨h1, c⟩
    · exact .inr ⟨x - n, mem_names.mpr ⟨by omega, by omega⟩, by omega⟩
  · rintro (⟨h1, h2⟩ | ⟨y, hy, rfl⟩)
    · exact ⟨h1, by omega⟩
    · obtain ⟨y0, y1⟩ := mem_names.mp hy
      exact ⟨by omega, by omega⟩
/-- parts of a sum -/
structure Pt (W : Wb) : Prop where
  lc : W.col.length = W.n
  ins : ∀ p ∈ W.arr, p.1 ∈ names W.n ∧ p.2 ∈ names W.n
section
variable {ah : Bool} {W V : Wb}
theorem mem_sum {x y : Int} : (x, y) ∈ (sumW ah W V).arr ↔ (x, y) ∈ W.arr ∨ (∃ u v, (u, v) ∈ V.arr ∧ x = (W.n : Int) + u ∧ y = (W.n : Int) + v) ∨ (ah = true ∧ x ∈ names W.n ∧ ∃ z ∈ names V.n, y = (W.n : Int) + z) := by
  show (x, y) ∈ srtP (sumA ah W V) ↔ _
  rw [srtP_mem]
  unfold sumA
  rw [List.mem_append, List.mem_append, or_assoc]
  refine or_congr Iff.rfl (or_congr ?_ ?_)
  · rw [List.mem_map]
    constructor
    · rintro ⟨q, hq, e⟩
      injection e with e1 e2
      exact ⟨q.1, q.2, hq, e1.symm, e2.symm⟩
    · rintro ⟨u, v, h, rfl, rfl⟩
      exact ⟨(u, v), h, rfl⟩
  · cases ah with
    | true => simp [mem_ahL]
    | false => simp
theorem sum_ll (hV : Pt V) {x y : Int} (hx : x ∈ names W.n) (hy : y ∈ names W.n) : (x, y) ∈ (sumW ah W V).arr ↔ (x, y) ∈ W.arr := by
  rw [mem_sum]
  obtain ⟨x0, x1⟩ := mem_names.mp hx
  obtain ⟨y0, y1⟩ := mem_names.mp hy
  constructor
  · rintro (h | ⟨u, v, h, e1, e2⟩ | ⟨_, _, z, hz, e⟩)
    · exact h
    · obtain ⟨u0, u1⟩ := mem_names.mp (hV.ins _ h).1
      omega
    · obtain ⟨z0, z1⟩ := mem_names.mp hz
      omega
  · exact .inl
theorem sum_rr (hW : Pt W) {x y : Int} (hx : x ∈ names V.n) (hy : y ∈ names V.n) : ((W.n : Int) + x, (W.n : Int) + y) ∈ (sumW ah W V).arr ↔ (x, y) ∈ V.arr := by
  rw [mem_sum]
  obtain ⟨x0, x1⟩ := mem_names.mp hx
  obtain ⟨y0, y1⟩ := mem_names.mp hy
  constructor
  · rintro (h | ⟨u, v, h, e1, e2⟩ | ⟨_, hx', _⟩)
    · obtain ⟨u0, u1⟩ := mem_names.mp (hW.ins _ h).1
      omega
    · have : u = x := by omega
      have : v = y := by omega
      subst u v
      exact h
    · obtain ⟨u0, u1⟩ := mem_names.mp hx'
      omega
  · exact fun h => .inr (.inl ⟨x, y, h, rfl, rfl⟩)
theorem sum_lr (hW : Pt W) (hV : Pt V) {x y : Int} (hx : x ∈ names W.n) (hy : y ∈ names V.n) : (x, (W.n : Int) + y) ∈ (sumW ah W V).arr ↔ ah = true := by
  rw [mem_sum]
  obtain ⟨x0, x1⟩ := mem_names.mp hx
  obtain ⟨y0, y1⟩ := mem_names.mp hy
  constructor
  · rintro (h | ⟨u, v, h, e1, e2⟩ | ⟨h, _⟩)
    · obtain ⟨u0, u1⟩ := mem_names.mp (hW.ins _ h).2
      omega
    · obtain ⟨u0, u1⟩ := mem_names.mp (hV.ins _ h).1
      omega
    · exact h
  · exact fun h => .inr (.inr ⟨h, hx, y, hy, rfl⟩)
theorem sum_rl (hW : Pt W) (hV : Pt V) {x y : Int} (hx : x ∈ names V.n) (hy : y ∈ names W.n) : ¬ ((W.n : Int) + x, y) ∈ (sumW ah W V).arr := by
  rw [mem_sum]
  obtain ⟨x0, x1⟩ := mem_names.mp hx
  obtain ⟨y0, y1⟩ := mem_names.mp hy
  rintro (h | ⟨u, v, h, e1, e2⟩ | ⟨_, hx', _⟩)
  · obtain ⟨u0, u1⟩ := mem_names.mp (hW.ins _ h).1
    omega
  · obtain ⟨u0, u1⟩ := mem_names.mp (hV.ins _ h).2
    omega
  · obtain ⟨u0, u1⟩ := mem_names.mp hx'
    omega
theorem col_l (hW : Pt W) {x : Int} (hx : x ∈ names W.n) : colAt (sumW ah W V) x = colAt W x := by
  obtain ⟨x0, x1⟩ := mem_names.mp hx
  unfold colAt sumW
  rw [List.getD_eq_getElem?_getD, List.getD_eq_getElem?_getD]
  rw [List.getElem?_append_left (by have := hW.lc; omega)]
theorem col_r (hW : Pt W) {x : Int} (hx : x ∈ names V.n) : colAt (sumW ah W V) ((W.n : Int) + x) = colAt V x := by
  obtain ⟨x0, x1⟩ := mem_names.mp hx
  unfold colAt sumW
  have := hW.lc
  rw [List.getD_eq_getElem?_getD, List.getD_eq_getElem?_getD]
  rw [List.getElem?_append_right (by omega)]
  congr 2
  omega
end
/-! ### the game on pairs -/
abbrev Ps := List (Int × Int)
def sameP (W V : Wb) (P : Ps) : Prop := ∀ p ∈ P, colAt W p.1 = colAt V p.2 ∧ ∀ q ∈ P, (p.1 = q.1 ↔ p.2 = q.2) ∧ ((p.1, q.1) ∈ W.arr ↔ (p.2, q.2) ∈ V.arr)
def keptP (W V : Wb) : Nat → Ps → Prop
  | 0, P => sameP W V P
  | r + 1, P => sameP W V P ∧ (∀ x ∈ names W.n, ∃ y ∈ names V.n, keptP W V r (P ++ [(x, y)])) ∧ ∀ y ∈ names V.n, ∃ x ∈ names W.n, keptP W V r (P ++ [(x, y)])
theorem mem_zip_at {a c : List Int} (hl : a.length = c.length) {p : Int × Int} : p ∈ a.zip c ↔ ∃ i, i < a.length ∧ p = (gAt a i, gAt c i) := by
  have g : ∀ (l : List Int) i (hi : i < l.length), gAt l i = l[i] := fun l i hi => by
    unfold gAt
    rw [List.getD_eq_getElem?_getD, List.getElem?_eq_getElem hi]; rfl
  constructor
  · intro h
    obtain ⟨i, hi, e⟩ := List.getElem_of_mem h
    rw [List.length_zip] at hi
    refine ⟨i, by omega, ?_⟩
    rw [← e, List.getElem_zip, g a i (by omega), g c i (by omega)]
  · rintro ⟨i, hi, rfl⟩
    rw [g a i hi, g c i (by omega), ← List.getElem_zip (h := by rw [List.length_zip]; omega)]
    exact List.getElem_mem _
theorem same_zip {W V : Wb} {a c : List Int} (hl : a.length = c.length) : sameB W a V c = true ↔ sameP W V (a.zip c) := by
  rw [sameB_iff]
  constructor
  · intro h p hp
    obtain ⟨i, hi, rfl⟩ := (mem_zip_at hl).mp hp
    refine ⟨(h i hi).1, fun q hq => ?_⟩
    obtain ⟨j, hj, rfl⟩ := (mem_zip_at hl).mp hq
    exact (h i hi).2 j hj
  · intro h i hi
    have q := h _ ((mem_zip_at hl).mpr ⟨i, hi, rfl⟩)
    exact ⟨q.1, fun j hj => q.2 _ ((mem_zip_at hl).mpr ⟨j, hj, rfl⟩)⟩
theorem zip_snoc {a c : List Int} (hl : a.length = c.length) (x y : Int) : (a ++ [x]).zip (c ++ [y]) = a.zip c ++ [(x, y)] := by
  rw [List.zip_append hl]; rfl
theorem kept_zip {W V : Wb} : ∀ (r : Nat) (a c : List Int), a.length = c.length → (keptB W V r a c = true ↔ keptP W V r (a.zip c))
  | 0, a, c, hl => same_zip hl
  | r + 1, a, c, hl => by
    have ih : ∀ x y, keptB W V r (a ++ [x]) (c ++ [y]) = true ↔ keptP W V r (a.zip c ++ [(x, y)]) := fun x y => by
      rw [← zip_snoc hl]
      exact kept_zip r _ _ (by simp [hl])
    rw [kept_succ, same_zip hl]
    simp only [keptP, ih]
theorem keptP_same {W V : Wb} {r : Nat} {P : Ps} (h : keptP W V r P) : sameP W V P := by
  cases r with
  | zero => exact h
  | succ r => exact h.1
theorem keptP_less {W V : Wb} : ∀ {r : Nat} {P : Ps}, keptP W V (r + 1) P → keptP W V r P
  | 0, P, h => h.1
  | r + 1, P, ⟨h1, h2, h3⟩ => ⟨h1, fun x hx => let ⟨y, hy, q⟩ := h2 x hx; ⟨y, hy, keptP_less q⟩, fun y hy => let ⟨x, hx, q⟩ := h3 y hy; ⟨x, hx, keptP_less q⟩⟩
/-- pairs of a sum: those of the one part, those of the other -/
def MixP (n n' : Nat) (P Q R : Ps) : Prop := ∀ z, z ∈ R ↔ z ∈ P ∨ ∃ q ∈ Q, z = ((n : Int) + q.1, (n' : Int) + q.2)
def InP (n n' : Nat) (P : Ps) : Prop := ∀ p ∈ P, p.1 ∈ names n ∧ p.2 ∈ names n'
theorem InP.snoc {n n' : Nat} {P : Ps} (h : InP n n' P) {x y : Int} (hx : x ∈ names n) (hy : y ∈ names n') : InP n n' (P ++ [(x, y)]) := fun p hp => by
  rcases List.mem_append.mp hp with hp | hp
  · exact h p hp
  · rw [List.mem_singleton.mp hp]; exact ⟨hx, hy⟩
theorem MixP.left {n n' : Nat} {P Q R : Ps} (h : MixP n n' P Q R) (x y : Int) : MixP n n' (P ++ [(x, y)]) Q (R ++ [(x, y)]) := fun z => by
  rw [List.mem_append, List.mem_append, h z]
  constructor
  · rintro ((h | h) | h)
    · exact .inl (.inl h)
    · exact .inr h
    · exact .inl (.inr h)
  · rintro ((h | h) | h)
    · exact .inl (.inl h)
    · exact .inr h
    · exact .inl (.inr h)
theorem MixP.right {n n' : Nat} {P Q R : Ps} (h : MixP n n' P Q R) (x y : Int) : MixP n n' P (Q ++ [(x, y)]) (R ++ [((n : Int) + x, (n' : Int) + y)]) := fun z => by
  rw [List.mem_append, h z]
  constructor
  · rintro ((h | ⟨q, hq, e⟩) | h)
    · exact .inl h
    · exact .inr ⟨q, List.mem_append_left _ hq, e⟩
    · exact .inr ⟨(x, y), List.mem_append_right _ List.mem_cons_self, List.mem_singleton.mp h⟩
  · rintro (h | ⟨q, hq, e⟩)
    · exact .inl (.inl h)
    · rcases List.mem_append.mp hq with hq | hq
      · exact .inl (.inr ⟨q, hq, e⟩)
      · rw [List.mem_singleton.mp hq] at e
        exact .inr (List.mem_singleton.mpr e)
theorem same_sum {ah : Bool} {W V W' V' : Wb} (hW : Pt W) (hV : Pt V) (hW' : Pt W') (hV' : Pt V') {P Q R : Ps} (iP : InP W.n W'.n P) (iQ : InP V.n V'.n Q) (m : MixP W.n W'.n P Q R) (sP : sameP W W' P) (sQ : sameP V V' Q) : sameP (sumW ah W V) (sumW ah W' V') R := by
  intro p hp
  rcases (m p).mp hp with hp | ⟨p', hp2, rfl⟩
  · obtain ⟨a1, a2⟩ := iP p hp
    refine ⟨by rw [col_l hW a1, col_l hW' a2]; exact (sP p hp).1, fun q hq => ?_⟩
    rcases (m q).mp hq with hq | ⟨q', hq2, rfl⟩
    · obtain ⟨b1, b2⟩ := iP q hq
      rw [sum_ll hV a1 b1, sum_ll hV' a2 b2]
      exact (sP p hp).2 q hq
    · obtain ⟨b1, b2⟩ := iQ q' hq2
      refine ⟨?_, by rw [sum_lr hW hV a1 b1, sum_lr hW' hV' a2 b2]⟩
      have := mem_names.mp a1
      have := mem_names.mp a2
      have := mem_names.mp b1
      have := mem_names.mp b2
      dsimp only
      omega
  · obtain ⟨a1, a2⟩ := iQ p' hp2
    refine ⟨by rw [col_r hW a1, col_r hW' a2]; exact (sQ p' hp2).1, fun q hq => ?_⟩
    rcases (m q).mp hq with hq | ⟨q', hq2, rfl⟩
    · obtain ⟨b1, b2⟩ := iP q hq
      refine ⟨?_, iff_of_false (sum_rl hW hV a1 b1) (sum_rl hW' hV' a2 b2)⟩
      have := mem_names.mp a1
      have := mem_names.mp a2
      have := mem_names.mp b1
      have := mem_names.mp b2
      dsimp only
      omega
    · obtain ⟨b1, b2⟩ := iQ q' hq2
      rw [sum_rr hW a1 b1, sum_rr hW' a2 b2]
      refine ⟨?_, ((sQ p' hp2).2 q' hq2).2⟩
      have := ((sQ p' hp2).2 q' hq2).1
      dsimp only
      omega
/-- what is kept in parts is kept in sums -/
theorem kept_sum {ah : Bool} {W V W' V' : Wb} (hW : Pt W) (hV : Pt V) (hW' : Pt W') (hV' : Pt V') : ∀ (r : Nat) (P Q R : Ps), InP W.n W'.n P → InP V.n V'.n Q → MixP W.n W'.n P Q R → keptP W W' r P → keptP V V' r Q → keptP (sumW ah W V) (sumW ah W' V') r R
  | 0, P, Q, R, iP, iQ, m, kP, kQ => same_sum hW hV hW' hV' iP iQ m kP kQ
  | r + 1, P, Q, R, iP, iQ, m, kP, kQ => by
    refine ⟨same_sum hW hV hW' hV' iP iQ m kP.1 kQ.1, fun x hx => ?_, fun y hy => ?_⟩
    · rcases names_sum.mp hx with hx | ⟨x', hx2, rfl⟩
      · obtain ⟨y, hy, q⟩ := kP.2.1 x hx
        exact ⟨y, names_sum.mpr (.inl hy), kept_sum hW hV hW' hV' r _ _ _ (iP.snoc hx hy) iQ (m.left x y) q (keptP_less kQ)⟩
      · obtain ⟨y, hy, q⟩ := kQ.2.1 x' hx2
        exact ⟨(W'.n : Int) + y, names_sum.mpr (.inr ⟨y, hy, rfl⟩), kept_sum hW hV hW' hV' r _ _ _ iP (iQ.snoc hx2 hy) (m.right x' y) (keptP_less kP) q⟩
    · rcases names_sum.mp hy with hy | ⟨y', hy2, rfl⟩
      · obtain ⟨x, hx, q⟩ := kP.2.2 y hy
        exact ⟨x, names_sum.mpr (.inl hx), kept_sum hW hV hW' hV' r _ _ _ (iP.snoc hx hy) iQ (m.left x y) q (keptP_less kQ)⟩
      · obtain ⟨x, hx, q⟩ := kQ.2.2 y' hy2
        exact ⟨(W.n : Int) + x, names_sum.mpr (.inr ⟨x, hx, rfl⟩), kept_sum hW hV hW' hV' r _ _ _ iP (iQ.snoc hx hy2) (m.right x y') (keptP_less kP) q⟩
/-! ### mixed rows -/
def mixS (n : Nat) : List Int → List Int → List Int → List Int
  | [], _, _ => []
  | s :: ss, a, b => if s = 0 then a.headD 0 :: mixS n ss a.tail b else ((n : Int) + b.headD 0) :: mixS n ss a b.tail
/-- sides that fit -/
def Fit (ss : List Int) (k j : Nat) : Prop := ss.countP (fun s => decide (s = 0)) = k ∧ ss.countP (fun s => !decide (s = 0)) = j
theorem Fit.zero {s : Int} {ss : List Int} {k j : Nat} (h : Fit (s :: ss) k j) (e : s = 0) : ∃ k', k = k' + 1 ∧ Fit ss k' j := by
  unfold Fit at h
  rw [List.countP_cons, List.countP_cons] at h
  simp only [e, decide_true, if_true, Bool.not_true, Bool.false_eq_true, if_false, Nat.add_zero] at h
  exact ⟨ss.countP (fun s => decide (s = 0)), h.1.symm, rfl, h.2⟩
theorem Fit.one {s : Int} {ss : List Int} {k j : Nat} (h : Fit (s :: ss) k j) (e : s ≠ 0) : ∃ j', j = j' + 1 ∧ Fit ss k j' := by
  unfold Fit at h
  rw [List.countP_cons, List.countP_cons] at h
  simp only [decide_eq_false e, Bool.not_false, if_true, Bool.false_eq_true, if_false, Nat.add_zero] at h
  exact ⟨ss.countP (fun s => !decide (s = 0)), h.2.symm, h.1, rfl⟩
theorem mixS_len (n : Nat) : ∀ ss a b, (mixS n ss a b).length = ss.length
  | [], _, _ => rfl
  | s :: ss, a, b => by
    unfold mixS
    split <;> rw [List.length_cons, List.length_cons, mixS_len n ss]
theorem mix_mix (n n' : Nat) : ∀ (ss a b c d : List Int), Fit ss a.length b.length → a.length = c.length → b.length = d.length → MixP n n' (a.zip c) (b.zip d) ((mixS n ss a b).zip (mixS n' ss c d))
  | [], a, b, c, d, f, _, _ => by
    have h1 : a = [] := List.eq_nil_of_length_eq_zero (by have := f.1; simpa using this.symm)
    have h2 : b = [] := List.eq_nil_of_length_eq_zero (by have := f.2; simpa using this.symm)
    subst h1 h2
    intro z
    simp [mixS]
  | s :: ss, a, b, c, d, f, h1, h2 => by
    by_cases e : s = 0
    · obtain ⟨k, hk, f'⟩ := f.zero e
      cases a with
      | nil => simp at hk
      | cons x a =>
        cases c with
        | nil => simp at h1
        | cons u c =>
          have ih := mix_mix n n' ss a b c d (by have : a.length = k := by simpa using hk
                                                 rw [this]; exact f') (by simpa using h1) h2
          intro z
          unfold mixS
          rw [if_pos e, if_pos e]
          simp only [List.headD_cons, List.tail_cons, List.zip_cons_cons, List.mem_cons]
          rw [ih z, or_assoc]
    · obtain ⟨k, hk, f'⟩ := f.one e
      cases b with
      | nil => simp at hk
      | cons x b =>
        cases d with
        | nil => simp at h2
        | cons u d =>
          have ih := mix_mix n n' ss a b c d (by have : b.length = k := by simpa using hk
                                                 rw [this]; exact f') h1 (by simpa using h2)
          intro z
          unfold mixS
          rw [if_neg e, if_neg e]
          simp only [List.headD_cons, List.tail_cons, List.zip_cons_cons, List.mem_cons]
          rw [ih z]
          constructor
          · rintro (rfl | h | ⟨q, hq, e⟩)
            · exact .inr ⟨(x, u), .inl rfl, rfl⟩
            · exact .inl h
            · exact .inr ⟨q, .inr hq, e⟩
          · rintro (h | ⟨q, rfl | hq, e⟩)
            · exact .inr (.inl h)
            · exact .inl e
            · exact .inr (.inr ⟨q, hq, e⟩)
theorem mixS_in {n m : Nat} : ∀ (ss a b : List Int), Fit ss a.length b.length → (∀ x ∈ a, x ∈ names n) → (∀ x ∈ b, x ∈ names m) → ∀ x ∈ mixS n ss a b, x ∈ names (n + m)
  | [], _, _, _, _, _, x, h => by simp [mixS] at h
  | s :: ss, a, b, f, ha, hb, x, h => by
    unfold mixS at h
    by_cases e : s = 0
    · obtain ⟨k, hk, f'⟩ := f.zero e
      cases a with
      | nil => simp at hk
      | cons y a =>
        rw [if_pos e] at h
        rcases List.mem_cons.mp h with e' | h
        · rw [e']; exact names_sum.mpr (.inl (ha y List.mem_cons_self))
        · exact mixS_in ss a b (by have : a.length = k := by simpa using hk
                                   rw [this]; exact f') (fun z hz => ha z (List.mem_cons_of_mem _ hz)) hb x h
    · obtain ⟨k, hk, f'⟩ := f.one e
      cases b with
      | nil => simp at hk
      | cons y b =>
        rw [if_neg e] at h
        rcases List.mem_cons.mp h with e' | h
        · rw [e']; exact names_sum.mpr (.inr ⟨y, hb y List.mem_cons_self, rfl⟩)
        · exact mixS_in ss a b (by have : b.length = k := by simpa using hk
                                   rw [this]; exact f') ha (fun z hz => hb z (List.mem_cons_of_mem _ hz)) x h
theorem kept_mixed {ah : Bool} {W V W' V' : Wb} (hW : Pt W) (hV : Pt V) (hW' : Pt W') (hV' : Pt V') {r : Nat} {ss a b c d : List Int} (f : Fit ss a.length b.length) (h1 : a.length = c.length) (h2 : b.length = d.length)
    (ia : ∀ x ∈ a, x ∈ names W.n) (ic : ∀ x ∈ c, x ∈ names W'.n) (ib : ∀ x ∈ b, x ∈ names V.n) (id : ∀ x ∈ d, x ∈ names V'.n)
    (k1 : keptB W W' r a c = true) (k2 : keptB V V' r b d = true) : keptB (sumW ah W V) (sumW ah W' V') r (mixS W.n ss a b) (mixS W'.n ss c d) = true := by
  refine (kept_zip r _ _ (by rw [mixS_len, mixS_len])).mpr ?_
  have z : ∀ {a c : List Int} {n n' : Nat}, (∀ x ∈ a, x ∈ names n) → (∀ x ∈ c, x ∈ names n') → InP n n' (a.zip c) := fun ha hc p hp => ⟨ha _ (List.of_mem_zip hp).1, hc _ (List.of_mem_zip hp).2⟩
  exact kept_sum hW hV hW' hV' r _ _ _ (z ia ic) (z ib id) (mix_mix _ _ ss a b c d f h1 h2) ((kept_zip r a c h1).mp k1) ((kept_zip r b d h2).mp k2)
end G

set_option Elab.async false
set_option linter.all false
set_option maxRecDepth 100000
set_option maxHeartbeats 4000000
namespace G
open PySem L2 PySem.Spec PyProof.Rows
def psRow (st : Src) (ds : List PyData) (d : PyData) (st' : Src) : Prop := ∃ (W : Wb) (many : Nat), 1 ≤ W.n ∧ W.n ≤ 20 ∧ many ≤ 20 ∧ ds = [wbD W, .int many] ∧ d = .tuple ((runS W.n st many).1.map .int) ∧ st' = (runS W.n st many).2
abbrev nRow : List Str := ["source", "web", "many", "place"]
theorem row_in {W : Wb} {s : Src} {many : Nat} (h : 1 ≤ W.n) : ∀ x ∈ (runS W.n s many).1, x ∈ names W.n := fun x hx => by
  have := runS_in (many := (W.n : Int)) (by omega) many x hx
  exact mem_names.mpr this
end G

set_option Elab.async false
set_option linter.all false
set_option maxRecDepth 100000
set_option maxHeartbeats 4000000
/- dict of pairs (text, value); types for fewer turns; rows at chosen places -/
namespace G
open PySem L2 PySem.Spec PyProof.Rows
def pairT (p : Str × PyData) : PyData := .tuple [.str p.1, p.2]
theorem pairsT {K : PySem.W.Frag} {B : Hp} : ∀ {kvs : List (Str × PyData)} {vs : List V}, DpAll K B vs (kvs.map pairT) → ∃ (ps : List Addr) (rs : List (Key × V)), vs = ps.map V.ref ∧ KvAll K B rs (kvs.map fun p => ((.inr p.1 : Key), p.2)) ∧ Paired (fun p (kv : Key × V) => SqT K B p [kV kv.1, kv.2]) ps rs
  | [], _, h => by cases h; exact ⟨[], [], rfl, .nil, .nil⟩
  | p :: kvs, _, .cons h t => by
    obtain ⟨ps, rs, e1, e2, e3⟩ := pairsT t
    have h' : Dp K B _ (.tuple [.str p.1, p.2]) := h
    cases h' with
    | @tup T us _ hs _ ht =>
    cases ht with
    | cons t1 t2 =>
    cases t2 with
    | cons t2 t3 =>
    cases t3
    cases t1
    rename_i v2
    exact ⟨T :: ps, (.inr p.1, v2) :: rs, by rw [e1]; rfl, .cons t2 e2, .cons hs e3⟩
theorem KvAll.merge {K : PySem.W.Frag} {B : Hp} : ∀ {r : List (Key × V)} {s : List (Key × PyData)} {r0 : List (Key × V)} {s0 : List (Key × PyData)}, KvAll K B r s → KvAll K B r0 s0 → KvAll K B (mergeK r0 r) (s.foldl (fun kvs p => putD kvs p.1 p.2) s0)
  | _, _, _, _, .nil, h0 => h0
  | _, _, r0, s0, .cons (k := k) (v := v) (d := d) (r := r) (s := s) h t, h0 => by
    have q : KvAll K B (mergeK (putK r0 k v) r) (s.foldl (fun kvs p => putD kvs p.1 p.2) (putD s0 k d)) := KvAll.merge t (h0.put (k := k) h)
    exact q
section
variable {X : Cx} {ρ ρ' ρ1 ρ2 ρ3 : Env'} {a b c e : Expr} {p pos : Pos} {xs ys : List PyData}
/-- dict([(text, value), ..]) -/
theorem df_dictT {l : List (Str × PyData)} (hc : X.calm = true) (h : DLd X ρ e (l.map pairT) ρ1) (hm : X.mg "dict" = none) (hg : Gl X "dict" := by rfl)
    (he : starEach [e] X.env = (false, eval e X.env) :: starEach [] X.env := by rfl) (hpl : (backTo pos (starEach [] X.env)).any (·.1) = false := by rfl) : DF X ρ (.Call (.Name "dict" p) [e] [] pos) (.dk (tabL l)) ρ1 := fun F Z B H σ Q k q =>
  ⟨_, pe_callTy (call_dictP hc) hg hm PyProof.Rows.boot_dict (pa_cons pe_s pa_nil he) (by decide) (by decide) he hpl, h F Z B H σ _ k fun a us B1 H1 k1 x1 hs t => by
    obtain ⟨ps, rs, e1, e2, e3⟩ := pairsT t
    subst e1
    have mono : ∀ {l : List Addr} {m : List (Key × V)}, Paired (fun p (kv : Key × V) => SqT X.K B1 p [kV kv.1, kv.2]) l m → Paired (fun p (kv : Key × V) => SqT X.K H1 p [kV kv.1, kv.2]) l m := by
      intro l m r
      induction r with
      | nil => exact .nil
      | cons h _ ih => exact .cons (h.imp k1.exB.rd id) ih
    refine ⟨a, ps, rs, rfl, hs, mono e3, fun d hd => ?_⟩
    have e4 : KvAll X.K B1 (mergeK [] rs) (tabL l) := by
      have q := KvAll.merge e2 KvAll.nil
      rw [List.foldl_map] at q
      exact q
    exact q d B1 _ (k1.loose hd _) x1 (k1.laid hd _) (.dk upd_same e4)⟩
end
/-! ### types for fewer turns -/
def lowT : Nat → NestedKey → NestedKey
  | 0, .tup [e, _] => .tup [e, .tup []]
  | k + 1, .tup [e, .tup ks] => .tup [e, .tup (onceT (ks.map (lowT k)))]
  | _, t => t
theorem low_ty {W : Wb} (h : Dg W) : ∀ (k r : Nat) (a : List Int), k ≤ r → a.length + r ≤ 10 → lowT k (tyR W r a) = tyR W k a
  | 0, 0, a, _, _ => rfl
  | 0, r + 1, a, _, _ => rfl
  | k + 1, 0, a, h1, _ => by omega
  | k + 1, r + 1, a, h1, h2 => by
    have ih : ∀ x, lowT k (tyR W r (a ++ [x])) = tyR W k (a ++ [x]) := fun x => low_ty h k r _ (by omega) (by rw [List.length_append]; simp only [List.length_cons, List.length_nil]; omega)
    show NestedKey.tup [eyeK W a, .tup (onceT ((onceT ((names W.n).map fun x => tyR W r (a ++ [x]))).map (lowT k)))] = NestedKey.tup [eyeK W a, .tup (onceT ((names W.n).map fun x => tyR W k (a ++ [x])))]
    have e : onceT ((onceT ((names W.n).map fun x => tyR W r (a ++ [x]))).map (lowT k)) = onceT ((names W.n).map fun x => tyR W k (a ++ [x])) := by
      refine onceT_ext (fun t ht => ?_) fun t => ?_
      · obtain ⟨u, hu, rfl⟩ := List.mem_map.mp ht
        obtain ⟨x, _, rfl⟩ := List.mem_map.mp (mem_onceT.mp hu)
        rw [ih]
        exact sm_tyR h k _ (by rw [List.length_append]; simp only [List.length_cons, List.length_nil]; omega)
      · rw [List.mem_map, List.mem_map]
        constructor
        · rintro ⟨u, hu, rfl⟩
          obtain ⟨x, hx, rfl⟩ := List.mem_map.mp (mem_onceT.mp hu)
          exact ⟨x, hx, (ih x).symm⟩
        · rintro ⟨x, hx, rfl⟩
          exact ⟨_, mem_onceT.mpr (List.mem_map_of_mem hx), ih x⟩
    rw [e]
/-- the first of the types that a type tells -/
theorem once_head {W : Wb} (h1 : 1 ≤ W.n) (r : Nat) (a : List Int) : ∃ x ∈ names W.n, ∃ ks, onceT ((names W.n).map fun x => tyR W r (a ++ [x])) = tyR W r (a ++ [x]) :: ks := by
  cases e : onceT ((names W.n).map fun x => tyR W r (a ++ [x])) with
  | nil =>
    have : tyR W r (a ++ [0]) ∈ onceT ((names W.n).map fun x => tyR W r (a ++ [x])) := mem_onceT.mpr (List.mem_map.mpr ⟨0, mem_names.mpr ⟨Int.le_refl _, by omega⟩, rfl⟩)
    rw [e] at this
    cases this
  | cons k ks =>
    have : k ∈ onceT ((names W.n).map fun x => tyR W r (a ++ [x])) := by rw [e]; exact List.mem_cons_self
    obtain ⟨x, hx, rfl⟩ := List.mem_map.mp (mem_onceT.mp this)
    exact ⟨x, hx, ks, rfl⟩

/-! ### rows at chosen places -/
def sub (P Q : Ps) : Prop := ∀ z ∈ P, z ∈ Q
theorem keptP_sub {W V : Wb} : ∀ {r : Nat} {P Q : Ps}, (∀ z ∈ P, z ∈ Q) → keptP W V r Q → keptP W V r P
  | 0, P, Q, h, s => fun p hp => ⟨(s p (h p hp)).1, fun q hq => (s p (h p hp)).2 q (h q hq)⟩
  | r + 1, P, Q, h, ⟨s, h2, h3⟩ => by
    have up : ∀ x y, ∀ z ∈ P ++ [(x, y)], z ∈ Q ++ [(x, y)] := fun x y z hz => by
      rcases List.mem_append.mp hz with hz | hz
      · exact List.mem_append_left _ (h z hz)
      · exact List.mem_append_right _ hz
    exact ⟨fun p hp => ⟨(s p (h p hp)).1, fun q hq => (s p (h p hp)).2 q (h q hq)⟩, fun x hx => let ⟨y, hy, q⟩ := h2 x hx; ⟨y, hy, keptP_sub (up x y) q⟩, fun y hy => let ⟨x, hx, q⟩ := h3 y hy; ⟨x, hx, keptP_sub (up x y) q⟩⟩
theorem kept_places {W V : Wb} {r : Nat} {a b : List Int} (hl : a.length = b.length) (ps : List Int) (hp : ∀ p ∈ ps, 0 ≤ p ∧ p < a.length) (h : keptB W V r a b = true) : keptB W V r (ps.map fun p => gAt a p.toNat) (ps.map fun p => gAt b p.toNat) = true := by
  refine (kept_zip r _ _ (by simp)).mpr (keptP_sub (fun z hz => ?_) ((kept_zip r a b hl).mp h))
  rw [List.zip_map'] at hz
  obtain ⟨p, hp1, rfl⟩ := List.mem_map.mp hz
  have := hp p hp1
  exact (mem_zip_at hl).mpr ⟨p.toNat, by omega, rfl⟩
theorem places_in {W : Wb} {a : List Int} (h : ∀ x ∈ a, x ∈ names W.n) (ps : List Int) (hp : ∀ p ∈ ps, 0 ≤ p ∧ p < a.length) : ∀ x ∈ ps.map fun p => gAt a p.toNat, x ∈ names W.n := fun x hx => by
  obtain ⟨p, hp1, rfl⟩ := List.mem_map.mp hx
  have := hp p hp1
  exact gAt_in h (by omega)
/-! ### shapes of types -/
theorem sm_pl {k : NestedKey} (h : Sm k) : Pl k := by
  induction h with
  | num _ _ => exact .num
  | tup _ ih => exact .tup ih
theorem bR_less {n r : Nat} (h : bR n (r + 1) ≤ sizeLine) : bR n r ≤ sizeLine := by
  have z1 : (1000 : Nat) ≤ sizeLine := by decide
  have e : bR n (r + 1) = 907 + n * (bR n r + 2) := rfl
  by_cases h0 : n = 0
  · rw [h0]
    have : ∀ r, bR 0 r ≤ 907 := fun r => by cases r <;> simp [bR]
    have := this r
    omega
  · have := Nat.le_mul_of_pos_left (bR n r + 2) (Nat.pos_of_ne_zero h0)
    omega
theorem bR_le {n r : Nat} (h : bR n r ≤ sizeLine) : ∀ k, k ≤ r → bR n k ≤ sizeLine := by
  induction r with
  | zero => intro k hk; obtain rfl : k = 0 := by omega
            exact h
  | succ r ih =>
    intro k hk
    by_cases c : k = r + 1
    · rw [c]; exact h
    · exact ih (bR_less h) k (by omega)
theorem sh_once {W : Wb} (h : Dg W) {r : Nat} {a : List Int} (hl : a.length + r ≤ 9) : SeqAt.shaped (NestedKey.tup (onceT ((names W.n).map fun x => tyR W r (a ++ [x])))).data = true := by
  refine pl_shaped (sm_pl (.tup fun k hk => ?_)) ?_
  · obtain ⟨x, _, rfl⟩ := List.mem_map.mp (mem_onceT.mp hk)
    exact sm_tyR h r _ (by rw [List.length_append]; simp only [List.length_cons, List.length_nil]; omega)
  · have h2 : NestedKey.depthAll (onceT ((names W.n).map fun x => tyR W r (a ++ [x]))) ≤ 2 * r + 4 := depthAll_le fun k hk => by
      obtain ⟨x, _, rfl⟩ := List.mem_map.mp (mem_onceT.mp hk)
      exact dp_tyR W r _
    rw [NestedKey.depth]
    omega
/-! ### places of rows -/
theorem prow_names (p : Nat → Nat → Bool) (n i : Nat) : ((names n).filter fun j => p i j.toNat).map (fun j => PyData.tuple [.int i, .int j]) = pD (prow p n i) := by
  unfold names prow pD
  rw [List.filter_map, List.map_map, List.map_map, List.map_map]
  rfl
end G

set_option Elab.async false
set_option linter.all false
set_option maxRecDepth 100000
set_option maxHeartbeats 4000000
namespace G
open PySem L2 PySem.Spec PyProof.Rows
def psDO (ds : List PyData) (d : PyData) : Prop := ∃ (W : Wb) (a : List Int) (r : Nat), Dg W ∧ 1 ≤ W.n ∧ a.length + r ≤ 6 ∧ ds = [(tyR W r a).data] ∧ d = .int r
abbrev nDO : List Str := ["told", "many"]
def psLo (R : Nat) (ds : List PyData) (d : PyData) : Prop := ∃ (W : Wb) (a : List Int) (r k : Nat), k ≤ R ∧ k ≤ r ∧ Dg W ∧ a.length + r ≤ 6 ∧ bR W.n k ≤ sizeLine ∧ ds = [(tyR W r a).data, .int k] ∧ d = (tyR W k a).data
abbrev nLo : List Str := ["told", "r", "late"]
def psLd (R : Nat) (ds : List PyData) (d : PyData) : Prop := ∃ (W : Wb) (a : List Int) (r : Nat), r ≤ R ∧ 1 ≤ W.n ∧ Dg W ∧ a.length + (r + 1) ≤ 6 ∧ bR W.n r ≤ sizeLine ∧ ds = [(tyR W (r + 1) a).data] ∧ d = (tyR W r a).data
abbrev nLE : List Str := ["web", "row", "places", "same", "led", "i", "j", "x"]
abbrev nLO : List Str := ["types", "known", "one", "text"]
theorem ty_zero (W : Wb) (a : List Int) : (tyR W 0 a).data = .tuple [(eyeK W a).data, .tuple []] := by
  unfold tyR
  rw [two_data, tupK_data]; rfl
theorem ty_succ (W : Wb) (r : Nat) (a : List Int) : (tyR W (r + 1) a).data = .tuple [(eyeK W a).data, (NestedKey.tup (onceT ((names W.n).map fun x => tyR W r (a ++ [x])))).data] := by
  exact two_data (eyeK W a) (.tup (onceT ((names W.n).map fun x => tyR W r (a ++ [x]))))
theorem tup_ne (x : PyData) (xs : List PyData) : PyData.eqv (.tuple (x :: xs)) (.tuple []) = false := by simp [PyData.eqv, PyData.eqvAll]
theorem pD_cat (l m : List (Int × Int)) : pD l ++ pD m = pD (l ++ m) := by
  simp [pD]
theorem at_zero (x : PyData) (l : List PyData) : atI (x :: l) 0 = some x := by
  unfold atI
  rw [ix_pos (Int.le_refl 0) (by rw [List.length_cons]; omega)]
  rfl
theorem tup_e0 : PyData.eqv (.tuple []) (.tuple []) = true := by simp [PyData.eqv, PyData.eqvAll]
end G

set_option Elab.async false
set_option linter.all false
set_option maxRecDepth 100000
set_option maxHeartbeats 4000000
namespace G
open PySem L2 PySem.Spec PyProof.Rows
def psMix (ds : List PyData) (d : PyData) : Prop := ∃ (n : Nat) (ss a b : List Int), Fit ss a.length b.length ∧ ss.length ≤ 1000 ∧ ds = [.int n, .tuple (ss.map .int), .tuple (a.map .int), .tuple (b.map .int)] ∧ d = .tuple ((mixS n ss a b).map .int)
abbrev nMix : List Str := ["n", "sides", "a", "b", "ones", "others", "found", "side"]
/-- what a mixed row leaves, turn by turn -/
def mxF (n : Nat) : List Int → List Int × List Int × List Int → List Int × List Int × List Int
  | [], t => t
  | s :: ss, (f, a, b) => if s = 0 then mxF n ss (f ++ [a.headD 0], a.tail, b) else mxF n ss (f ++ [(n : Int) + b.headD 0], a, b.tail)
theorem mxF_mix (n : Nat) : ∀ (ss f a b : List Int), (mxF n ss (f, a, b)).1 = f ++ mixS n ss a b
  | [], f, a, b => by simp [mxF, mixS]
  | s :: ss, f, a, b => by
    unfold mxF mixS
    split
    · rw [mxF_mix n ss]; simp
    · rw [mxF_mix n ss]; simp
theorem mxF_app (n : Nat) : ∀ (ss tt : List Int) (t : List Int × List Int × List Int), mxF n (ss ++ tt) t = mxF n tt (mxF n ss t)
  | [], _, _ => rfl
  | s :: ss, tt, (f, a, b) => by
    show mxF n (s :: (ss ++ tt)) (f, a, b) = mxF n tt (mxF n (s :: ss) (f, a, b))
    by_cases e : s = 0
    · have h1 : ∀ l, mxF n (s :: l) (f, a, b) = mxF n l (f ++ [a.headD 0], a.tail, b) := fun l => by rw [mxF, if_pos e]
      rw [h1, h1]
      exact mxF_app n ss tt _
    · have h1 : ∀ l, mxF n (s :: l) (f, a, b) = mxF n l (f ++ [(n : Int) + b.headD 0], a, b.tail) := fun l => by rw [mxF, if_neg e]
      rw [h1, h1]
      exact mxF_app n ss tt _
theorem mxF_fit (n : Nat) : ∀ (ss tt f a b : List Int), Fit (ss ++ tt) a.length b.length → Fit tt (mxF n ss (f, a, b)).2.1.length (mxF n ss (f, a, b)).2.2.length ∧ (mxF n ss (f, a, b)).1.length = f.length + ss.length
  | [], tt, f, a, b, h => ⟨h, by simp [mxF]⟩
  | s :: ss, tt, f, a, b, h => by
    unfold mxF
    by_cases e : s = 0
    · obtain ⟨k, hk, f'⟩ := Fit.zero (show Fit (s :: (ss ++ tt)) _ _ from h) e
      rw [if_pos e]
      have := mxF_fit n ss tt (f ++ [a.headD 0]) a.tail b (by rw [List.length_tail, hk]; exact f')
      refine ⟨this.1, ?_⟩
      rw [this.2]; simp; omega
    · obtain ⟨k, hk, f'⟩ := Fit.one (show Fit (s :: (ss ++ tt)) _ _ from h) e
      rw [if_neg e]
      have := mxF_fit n ss tt (f ++ [(n : Int) + b.headD 0]) a b.tail (by rw [List.length_tail, hk]; exact f')
      refine ⟨this.1, ?_⟩
      rw [this.2]; simp; omega
end G

set_option Elab.async false
set_option linter.all false
set_option maxRecDepth 100000
set_option maxHeartbeats 4000000
/- mixed types are the types of mixed rows: mathematics -/
namespace G
open PySem PySem.Spec PyProof.Rows
/-! ### sorted pairs -/
def ltP (p q : Int × Int) : Prop := p.1 < q.1 ∨ (p.1 = q.1 ∧ p.2 < q.2)
theorem pK_toks (p : Int × Int) : PySem.W.keyToks (pK p).data = [.inl 1, .inl p.1, .inl 1, .inl p.2, .inl 0] := by
  simp [pK, NestedKey.data, NestedKey.datas, PySem.W.keyToks, PySem.W.keyToksAll]
theorem pK_lt (p q : Int × Int) : PySem.W.dataLt (pK p).data (pK q).data = true ↔ ltP p q := by
  unfold PySem.W.dataLt ltP
  rw [pK_toks, pK_toks, lex_self (O := itemOrd)]
  by_cases e : p.1 = q.1
  · rw [e, lex_self (O := itemOrd), lex_self (O := itemOrd)]
    by_cases e2 : p.2 = q.2
    · rw [e2, lex_self (O := itemOrd), lex_self (O := itemOrd)]
      have : PyProof.Rows.lexLt itemOrd [] [] = false := rfl
      rw [this]
      constructor
      · intro h; cases h
      · intro h; omega
    · rw [lex_diff (O := itemOrd) (fun h => e2 (Sum.inl.inj h))]
      show decide (p.2 < q.2) = true ↔ _
      rw [decide_eq_true_iff]; omega
  · rw [lex_diff (O := itemOrd) (fun h => e (Sum.inl.inj h))]
    show decide (p.1 < q.1) = true ↔ _
    rw [decide_eq_true_iff]; omega
theorem ltP_ne {p q : Int × Int} (h : ltP p q) : p ≠ q := fun e => by
  subst e
  unfold ltP at h
  omega
theorem ltP_nodup {l : List (Int × Int)} (h : l.Pairwise ltP) : l.Nodup := h.imp ltP_ne
theorem srtP_of {l m : List (Int × Int)} (h : l.Perm m) (hs : m.Pairwise ltP) : srtP l = m := by
  refine List.Perm.eq_of_pairwise (le := fun p q => PySem.W.dataLe false id (pK p).data (pK q).data = true) (fun a b _ _ l1 l2 => pK_inj (dle_antisymm rfl l1 l2)) ?_ ?_ ((List.mergeSort_perm _ _).trans h)
  · exact List.pairwise_mergeSort (le := fun a b : Int × Int => PySem.W.dataLe false id (pK a).data (pK b).data) (fun a b c => dle_trans (pK a).data (pK b).data (pK c).data) (fun a b => dle_total (pK a).data (pK b).data) l
  · refine hs.imp fun {a b} q => ?_
    rw [dle_eq, dlt_asymm _ _ ((pK_lt a b).mpr q)]; rfl
theorem names_pw (n : Nat) : (names n).Pairwise fun x y => x < y := by
  unfold names
  rw [List.pairwise_map]
  exact List.pairwise_lt_range.imp fun h => by omega
theorem prow_pw (p : Nat → Nat → Bool) (m i : Nat) : (prow p m i).Pairwise ltP := by
  unfold prow
  rw [List.pairwise_map]
  exact (List.pairwise_lt_range.sublist List.filter_sublist).imp fun h => .inr ⟨rfl, by dsimp only; omega⟩
theorem pairsOf_pw (p : Nat → Nat → Bool) (n m : Nat) : (pairsOf p n m).Pairwise ltP := by
  unfold pairsOf
  rw [List.pairwise_flatMap]
  refine ⟨fun i _ => prow_pw p m i, List.pairwise_lt_range.imp fun {a b} h x hx y hy => ?_⟩
  obtain ⟨_, _, _, rfl⟩ := mem_prow.mp hx
  obtain ⟨_, _, _, rfl⟩ := mem_prow.mp hy
  exact .inl (by dsimp only; omega)
theorem srtP_pairs {p : Nat → Nat → Bool} {n m : Nat} {l : List (Int × Int)} (nd : l.Nodup) (h : ∀ q, q ∈ l ↔ q ∈ pairsOf p n m) : srtP l = pairsOf p n m :=
  srtP_of ((List.perm_ext_iff_of_nodup nd (ltP_nodup (pairsOf_pw p n m))).mpr h) (pairsOf_pw p n m)
/-! ### places of sides -/
def plcs (ss : List Int) (c : Int) : List Int := (names ss.length).filter fun i => decide (gAt ss i.toNat = c)
def plF (c : Int) : Nat → List Int → List Int
  | _, [] => []
  | k, s :: ss => if s = c then (k : Int) :: plF c (k + 1) ss else plF c (k + 1) ss
theorem plF_eq (c : Int) : ∀ (ss : List Int) (k : Nat), (((List.range ss.length).filter fun i => decide (gAt ss i = c)).map fun i => ((k + i : Nat) : Int)) = plF c k ss
  | [], k => rfl
  | s :: ss, k => by
    have ih := plF_eq c ss (k + 1)
    rw [List.length_cons, List.range_succ_eq_map, List.filter_cons, List.filter_map, plF, ← ih]
    have e0 : gAt (s :: ss) 0 = s := rfl
    have e1 : ((fun i => decide (gAt (s :: ss) i = c)) ∘ Nat.succ) = fun i => decide (gAt ss i = c) := by
      funext i; rfl
    have e2 : ∀ l : List Nat, (l.map Nat.succ).map (fun i => ((k + i : Nat) : Int)) = l.map fun i => ((k + 1 + i : Nat) : Int) := fun l => by
      rw [List.map_map]
      refine List.map_congr_left fun i _ => ?_
      show ((k + (i + 1) : Nat) : Int) = _
      congr 1; omega
    rw [e0, e1]
    by_cases e : s = c
    · rw [if_pos (decide_eq_true e), if_pos e, List.map_cons, e2]; rfl
    · rw [if_neg (by simp [e]), if_neg e, e2]
theorem plcs_eq (ss : List Int) (c : Int) : plcs ss c = plF c 0 ss := by
  rw [← plF_eq]
  unfold plcs names
  rw [List.filter_map]
  have e : (fun i : Nat => ((i : Nat) : Int)) = fun i => ((0 + i : Nat) : Int) := by funext i; rw [Nat.zero_add]
  rw [← e]
  rfl
theorem plF_mix : ∀ (ss : List Int) (k : Nat), (∀ s ∈ ss, s = 0 ∨ s = 1) → mixS 0 ss (plF 0 k ss) (plF 1 k ss) = (List.range ss.length).map fun i => ((k + i : Nat) : Int)
  | [], _, _ => rfl
  | s :: ss, k, h => by
    have ih := plF_mix ss (k + 1) fun x hx => h x (List.mem_cons_of_mem _ hx)
    have e2 : ((List.range ss.length).map Nat.succ).map (fun i => ((k + i : Nat) : Int)) = (List.range ss.length).map fun i => ((k + 1 + i : Nat) : Int) := by
      rw [List.map_map]
      refine List.map_congr_left fun i _ => ?_
      show ((k + (i + 1) : Nat) : Int) = _
      congr 1; omega
    rw [List.length_cons, List.range_succ_eq_map, List.map_cons, e2, ← ih]
    rcases h s List.mem_cons_self with rfl | rfl
    · simp [plF, mixS]
    · simp [plF, mixS]
theorem plF_len : ∀ (ss : List Int) (k : Nat), (∀ s ∈ ss, s = 0 ∨ s = 1) → (plF 0 k ss).length = ss.countP (fun s => decide (s = 0)) ∧ (plF 1 k ss).length = ss.countP (fun s => !decide (s = 0))
  | [], _, _ => ⟨rfl, rfl⟩
  | s :: ss, k, h => by
    have ih := plF_len ss (k + 1) fun x hx => h x (List.mem_cons_of_mem _ hx)
    rcases h s List.mem_cons_self with rfl | rfl
    · simp [plF, ih.1, ih.2]
    · simp [plF, ih.1, ih.2]
theorem plcs_len {ss : List Int} (h : ∀ s ∈ ss, s = 0 ∨ s = 1) {k j : Nat} (f : Fit ss k j) : (plcs ss 0).length = k ∧ (plcs ss 1).length = j := by
  rw [plcs_eq, plcs_eq, (plF_len ss 0 h).1, (plF_len ss 0 h).2]
  exact f
theorem plcs_mix {ss : List Int} (h : ∀ s ∈ ss, s = 0 ∨ s = 1) : mixS 0 ss (plcs ss 0) (plcs ss 1) = names ss.length := by
  rw [plcs_eq, plcs_eq, plF_mix ss 0 h]
  unfold names
  exact List.map_congr_left fun i _ => by congr 1; omega
theorem plcs_pw (ss : List Int) (c : Int) : (plcs ss c).Pairwise fun x y => x < y := (names_pw _).sublist List.filter_sublist
theorem mem_plcs {ss : List Int} {c x : Int} : x ∈ plcs ss c ↔ x ∈ names ss.length ∧ gAt ss x.toNat = c := by
  unfold plcs
  rw [List.mem_filter, decide_eq_true_iff]
theorem gAt_lt {l : List Int} (h : l.Pairwise fun x y => x < y) {i j : Nat} (hij : i < j) (hj : j < l.length) : gAt l i < gAt l j := by
  have g : ∀ i (hi : i < l.length), gAt l i = l[i] := fun i hi => by
    unfold gAt
    rw [List.getD_eq_getElem?_getD, List.getElem?_eq_getElem hi]; rfl
  rw [g i (by omega), g j hj]
  exact List.pairwise_iff_getElem.mp h i j (by omega) hj hij
theorem gAt_inj {l : List Int} (h : l.Pairwise fun x y => x < y) {i j : Nat} (hi : i < l.length) (hj : j < l.length) (e : gAt l i = gAt l j) : i = j := by
  rcases Nat.lt_trichotomy i j with c | c | c
  · have := gAt_lt h c hj; omega
  · exact c
  · have := gAt_lt h c hi; omega
theorem gAt_lt_iff {l : List Int} (h : l.Pairwise fun x y => x < y) {i j : Nat} (hi : i < l.length) (hj : j < l.length) : gAt l i < gAt l j ↔ i < j := by
  constructor
  · intro q
    rcases Nat.lt_trichotomy i j with c | c | c
    · exact c
    · subst c; omega
    · have := gAt_lt h c hi; omega
  · exact fun c => gAt_lt h c hj
/-! ### eyes of mixed rows -/
section
variable {ah : Bool} {W V : Wb} {ss a b : List Int}
structure Mx (W V : Wb) (ss a b : List Int) : Prop where
  ok : ∀ s ∈ ss, s = 0 ∨ s = 1
  fit : Fit ss a.length b.length
  ia : ∀ x ∈ a, x ∈ names W.n
  ib : ∀ x ∈ b, x ∈ names V.n
theorem Mx.len (h : Mx W V ss a b) : ss.length = a.length + b.length := by
  have h1 := h.fit.1
  have h2 := h.fit.2
  have := List.length_eq_countP_add_countP (fun s => decide (s = (0 : Int))) (l := ss)
  rw [h1] at this
  have e : (fun s : Int => decide ¬(decide (s = 0) = true)) = fun s => !decide (s = 0) := by funext s; simp
  rw [e, h2] at this
  exact this
theorem Mx.mixP (h : Mx W V ss a b) : MixP W.n 0 (a.zip (plcs ss 0)) (b.zip (plcs ss 1)) ((mixS W.n ss a b).zip (names ss.length)) := by
  rw [← plcs_mix h.ok]
  have l := plcs_len h.ok h.fit
  exact mix_mix W.n 0 ss a b (plcs ss 0) (plcs ss 1) h.fit l.1.symm l.2.symm
theorem zip_names {M : List Int} {L : Nat} (hl : M.length = L) {x k : Int} : (x, k) ∈ M.zip (names L) ↔ k ∈ names L ∧ x = gAt M k.toNat := by
  rw [mem_zip_at (by rw [names_len]; exact hl)]
  constructor
  · rintro ⟨i, hi, e⟩
    injection e with e1 e2
    have hk : (i : Int) ∈ names L := mem_names.mpr ⟨by omega, by omega⟩
    have := gAt_names hk
    rw [Int.toNat_natCast] at this
    rw [this] at e2
    subst e2
    exact ⟨hk, by rw [Int.toNat_natCast]; exact e1⟩
  · rintro ⟨hk, rfl⟩
    have := mem_names.mp hk
    exact ⟨k.toNat, by omega, by rw [gAt_names hk]⟩
theorem Mx.fa (h : Mx W V ss a b) {i : Nat} (hi : i < a.length) : gAt (plcs ss 0) i ∈ names ss.length ∧ gAt (mixS W.n ss a b) (gAt (plcs ss 0) i).toNat = gAt a i := by
  have l := plcs_len h.ok h.fit
  have q := (h.mixP (gAt a i, gAt (plcs ss 0) i)).mpr (.inl ((mem_zip_at l.1.symm).mpr ⟨i, hi, rfl⟩))
  obtain ⟨q1, q2⟩ := (zip_names (mixS_len _ _ _ _)).mp q
  exact ⟨q1, q2.symm⟩
theorem Mx.fb (h : Mx W V ss a b) {i : Nat} (hi : i < b.length) : gAt (plcs ss 1) i ∈ names ss.length ∧ gAt (mixS W.n ss a b) (gAt (plcs ss 1) i).toNat = (W.n : Int) + gAt b i := by
  have l := plcs_len h.ok h.fit
  have q := (h.mixP ((W.n : Int) + gAt b i, ((0 : Nat) : Int) + gAt (plcs ss 1) i)).mpr (.inr ⟨(gAt b i, gAt (plcs ss 1) i), (mem_zip_at l.2.symm).mpr ⟨i, hi, rfl⟩, rfl⟩)
  obtain ⟨q1, q2⟩ := (zip_names (mixS_len _ _ _ _)).mp q
  have e : ((0 : Nat) : Int) + gAt (plcs ss 1) i = gAt (plcs ss 1) i := by omega
  rw [e] at q1 q2
  exact ⟨q1, q2.symm⟩
theorem Mx.fc (h : Mx W V ss a b) {k : Nat} (hk : k < ss.length) : (∃ i, i < a.length ∧ gAt (mixS W.n ss a b) k = gAt a i ∧ (k : Int) = gAt (plcs ss 0) i) ∨ ∃ i, i < b.length ∧ gAt (mixS W.n ss a b) k = (W.n : Int) + gAt b i ∧ (k : Int) = gAt (plcs ss 1) i := by
  have l := plcs_len h.ok h.fit
  have m : (gAt (mixS W.n ss a b) k, (k : Int)) ∈ (mixS W.n ss a b).zip (names ss.length) := (zip_names (mixS_len _ _ _ _)).mpr ⟨mem_names.mpr ⟨by omega, by omega⟩, by rw [Int.toNat_natCast]⟩
  rcases (h.mixP _).mp m with q | ⟨z, hz, e⟩
  · obtain ⟨i, hi, e⟩ := (mem_zip_at l.1.symm).mp q
    injection e with e1 e2
    exact .inl ⟨i, hi, e1, e2⟩
  · obtain ⟨i, hi, rfl⟩ := (mem_zip_at l.2.symm).mp hz
    injection e with e1 e2
    exact .inr ⟨i, hi, e1, by dsimp only at e2; omega⟩
theorem Mx.cross (h : Mx W V ss a b) {i j : Nat} (hi : i < a.length) (hj : j < b.length) : gAt a i ≠ (W.n : Int) + gAt b j := fun e => by
  have h1 := mem_names.mp (gAt_in h.ia hi)
  have h2 := mem_names.mp (gAt_in h.ib hj)
  omega
/-- pairs of places, told by places of a part -/
theorem mem_gP {p : Nat → Nat → Bool} {k : Nat} {l : List Int} {q : Int × Int} : q ∈ (pairsOf p k k).map (gP l) ↔ ∃ i j, i < k ∧ j < k ∧ p i j = true ∧ q = (gAt l i, gAt l j) := by
  rw [List.mem_map]
  constructor
  · rintro ⟨z, hz, rfl⟩
    obtain ⟨i, j, hi, hj, hp, rfl⟩ := mem_pairsOf.mp hz
    exact ⟨i, j, hi, hj, hp, rfl⟩
  · rintro ⟨i, j, hi, hj, hp, rfl⟩
    exact ⟨(i, j), mem_pairsOf.mpr ⟨i, j, hi, hj, hp, rfl⟩, rfl⟩
theorem gP_pw {p : Nat → Nat → Bool} {k : Nat} {l : List Int} (h : l.Pairwise fun x y => x < y) (hk : l.length = k) : ((pairsOf p k k).map (gP l)).Pairwise ltP := by
  rw [List.pairwise_map]
  refine (pairsOf_pw p k k).imp_of_mem fun {x y} hx hy q => ?_
  obtain ⟨i, j, hi, hj, _, rfl⟩ := mem_pairsOf.mp hx
  obtain ⟨i', j', hi', hj', _, rfl⟩ := mem_pairsOf.mp hy
  show gAt l i < gAt l i' ∨ (gAt l i = gAt l i' ∧ gAt l j < gAt l j')
  rcases q with q | ⟨q1, q2⟩
  · exact .inl (gAt_lt h (by dsimp only at q; omega) (by omega))
  · dsimp only at q1 q2
    have : i = i' := by omega
    subst this
    exact .inr ⟨rfl, gAt_lt h (by omega) (by omega)⟩
theorem Mx.dis (h : Mx W V ss a b) {i j : Nat} (hi : i < a.length) (hj : j < b.length) : gAt (plcs ss 0) i ≠ gAt (plcs ss 1) j := fun e => by
  have l := plcs_len h.ok h.fit
  have h1 := (mem_plcs.mp (gAt_mem (a := plcs ss 0) (i := i) (by omega))).2
  have h2 := (mem_plcs.mp (gAt_mem (a := plcs ss 1) (i := j) (by omega))).2
  rw [e, h2] at h1
  omega
def told0 (ss a b : List Int) : List (Int × Int) := (sameL a).map (gP (plcs ss 0)) ++ (sameL b).map (gP (plcs ss 1))
def aheadL (ah : Bool) (ss : List Int) : List (Int × Int) := if ah = true then (plcs ss 0).flatMap fun i => (plcs ss 1).map fun j => (i, j) else []
def told1 (ah : Bool) (W V : Wb) (ss a b : List Int) : List (Int × Int) := (ledL W a).map (gP (plcs ss 0)) ++ (ledL V b).map (gP (plcs ss 1)) ++ aheadL ah ss
theorem Mx.parts (h : Mx W V ss a b) (p q : Nat → Nat → Bool) : ((pairsOf p a.length a.length).map (gP (plcs ss 0)) ++ (pairsOf q b.length b.length).map (gP (plcs ss 1))).Nodup := by
  have l := plcs_len h.ok h.fit
  refine List.nodup_append.mpr ⟨ltP_nodup (gP_pw (plcs_pw _ _) l.1), ltP_nodup (gP_pw (plcs_pw _ _) l.2), fun x hx y hy e => ?_⟩
  obtain ⟨i, j, hi, hj, _, rfl⟩ := mem_gP.mp hx
  obtain ⟨i', j', hi', hj', _, rfl⟩ := mem_gP.mp hy
  injection e with e1 e2
  exact h.dis hi hi' e1
theorem Mx.same (h : Mx W V ss a b) : srtP (told0 ss a b) = sameL (mixS W.n ss a b) := by
  have l := plcs_len h.ok h.fit
  refine srtP_pairs (h.parts _ _) fun q => ?_
  unfold told0
  rw [List.mem_append]
  unfold sameL
  rw [mem_gP, mem_gP, mem_pairsOf, mixS_len]
  constructor
  · rintro (⟨i, j, hi, hj, hp, rfl⟩ | ⟨i, j, hi, hj, hp, rfl⟩)
    · rw [Bool.and_eq_true, decide_eq_true_iff, decide_eq_true_iff] at hp
      obtain ⟨i1, i2⟩ := h.fa hi
      obtain ⟨j1, j2⟩ := h.fa hj
      have := gAt_lt (plcs_pw ss 0) hp.1 (by omega)
      have m1 := mem_names.mp i1
      have m2 := mem_names.mp j1
      refine ⟨(gAt (plcs ss 0) i).toNat, (gAt (plcs ss 0) j).toNat, by omega, by omega, ?_, by rw [Int.toNat_of_nonneg m1.1, Int.toNat_of_nonneg m2.1]⟩
      rw [i2, j2, Bool.and_eq_true, decide_eq_true_iff, decide_eq_true_iff]
      exact ⟨by omega, hp.2⟩
    · rw [Bool.and_eq_true, decide_eq_true_iff, decide_eq_true_iff] at hp
      obtain ⟨i1, i2⟩ := h.fb hi
      obtain ⟨j1, j2⟩ := h.fb hj
      have := gAt_lt (plcs_pw ss 1) hp.1 (by omega)
      have m1 := mem_names.mp i1
      have m2 := mem_names.mp j1
      refine ⟨(gAt (plcs ss 1) i).toNat, (gAt (plcs ss 1) j).toNat, by omega, by omega, ?_, by rw [Int.toNat_of_nonneg m1.1, Int.toNat_of_nonneg m2.1]⟩
      rw [i2, j2, Bool.and_eq_true, decide_eq_true_iff, decide_eq_true_iff]
      exact ⟨by omega, by rw [hp.2]⟩
  · rintro ⟨k, m, hk, hm, hp, rfl⟩
    rw [Bool.and_eq_true, decide_eq_true_iff, decide_eq_true_iff] at hp
    rcases h.fc hk with ⟨i, hi, k1, k2⟩ | ⟨i, hi, k1, k2⟩ <;> rcases h.fc hm with ⟨j, hj, m1, m2⟩ | ⟨j, hj, m1, m2⟩ <;> rw [k1, m1] at hp
    · refine .inl ⟨i, j, hi, hj, ?_, by rw [k2, m2]⟩
      have := (gAt_lt_iff (plcs_pw ss 0) (i := i) (j := j) (by omega) (by omega)).mp (by omega)
      rw [Bool.and_eq_true, decide_eq_true_iff, decide_eq_true_iff]
      exact ⟨this, hp.2⟩
    · exact absurd hp.2 (h.cross hi hj)
    · exact absurd hp.2.symm (h.cross hj hi)
    · refine .inr ⟨i, j, hi, hj, ?_, by rw [k2, m2]⟩
      have := (gAt_lt_iff (plcs_pw ss 1) (i := i) (j := j) (by omega) (by omega)).mp (by omega)
      rw [Bool.and_eq_true, decide_eq_true_iff, decide_eq_true_iff]
      exact ⟨this, by omega⟩
theorem mem_aheadL {q : Int × Int} : q ∈ aheadL ah ss ↔ ah = true ∧ q.1 ∈ plcs ss 0 ∧ q.2 ∈ plcs ss 1 := by
  unfold aheadL
  cases ah with
  | false => simp
  | true =>
    rw [if_pos rfl, List.mem_flatMap]
    constructor
    · rintro ⟨i, hi, h⟩
      obtain ⟨j, hj, rfl⟩ := List.mem_map.mp h
      exact ⟨rfl, hi, hj⟩
    · rintro ⟨_, h1, h2⟩
      exact ⟨q.1, h1, List.mem_map.mpr ⟨q.2, h2, rfl⟩⟩
theorem aheadL_pw : (aheadL ah ss).Pairwise ltP := by
  unfold aheadL
  split
  · rw [List.pairwise_flatMap]
    refine ⟨fun i _ => ?_, (plcs_pw ss 0).imp fun {x y} h z hz u hu => ?_⟩
    · rw [List.pairwise_map]
      exact (plcs_pw ss 1).imp fun h => .inr ⟨rfl, h⟩
    · obtain ⟨_, _, rfl⟩ := List.mem_map.mp hz
      obtain ⟨_, _, rfl⟩ := List.mem_map.mp hu
      exact .inl h
  · exact .nil
theorem mem_gAt {l : List Int} {x : Int} (h : x ∈ l) : ∃ i, i < l.length ∧ gAt l i = x := mem_at h
theorem Mx.led (h : Mx W V ss a b) (hW : Pt W) (hV : Pt V) : srtP (told1 ah W V ss a b) = ledL (sumW ah W V) (mixS W.n ss a b) := by
  have l := plcs_len h.ok h.fit
  refine srtP_pairs ?_ fun q => ?_
  · refine List.nodup_append.mpr ⟨h.parts _ _, ltP_nodup aheadL_pw, fun x hx y hy e => ?_⟩
    subst e
    obtain ⟨_, h1, h2⟩ := mem_aheadL.mp hy
    obtain ⟨i, hi, e1⟩ := mem_gAt h1
    obtain ⟨j, hj, e2⟩ := mem_gAt h2
    rcases List.mem_append.mp hx with hx | hx
    · obtain ⟨i', j', hi', hj', _, rfl⟩ := mem_gP.mp hx
      exact h.dis hj' (by omega) e2.symm
    · obtain ⟨i', j', hi', hj', _, rfl⟩ := mem_gP.mp hx
      exact h.dis (by omega) hi' e1
  · unfold told1
    rw [List.mem_append, List.mem_append, mem_aheadL]
    unfold ledL
    rw [mem_gP, mem_gP, mem_pairsOf, mixS_len]
    constructor
    · rintro ((⟨i, j, hi, hj, hp, rfl⟩ | ⟨i, j, hi, hj, hp, rfl⟩) | ⟨ha, h1, h2⟩)
      · rw [decide_eq_true_iff] at hp
        obtain ⟨i1, i2⟩ := h.fa hi
        obtain ⟨j1, j2⟩ := h.fa hj
        have m1 := mem_names.mp i1
        have m2 := mem_names.mp j1
        refine ⟨(gAt (plcs ss 0) i).toNat, (gAt (plcs ss 0) j).toNat, by omega, by omega, ?_, by rw [Int.toNat_of_nonneg m1.1, Int.toNat_of_nonneg m2.1]⟩
        rw [i2, j2, decide_eq_true_iff]
        exact (sum_ll hV (gAt_in h.ia hi) (gAt_in h.ia hj)).mpr hp
      · rw [decide_eq_true_iff] at hp
        obtain ⟨i1, i2⟩ := h.fb hi
        obtain ⟨j1, j2⟩ := h.fb hj
        have m1 := mem_names.mp i1
        have m2 := mem_names.mp j1
        refine ⟨(gAt (plcs ss 1) i).toNat, (gAt (plcs ss 1) j).toNat, by omega, by omega, ?_, by rw [Int.toNat_of_nonneg m1.1, Int.toNat_of_nonneg m2.1]⟩
        rw [i2, j2, decide_eq_true_iff]
        exact (sum_rr hW (gAt_in h.ib hi) (gAt_in h.ib hj)).mpr hp
      · obtain ⟨x, y⟩ := q
        dsimp only at h1 h2
        obtain ⟨i, hi, rfl⟩ := mem_gAt h1
        obtain ⟨j, hj, rfl⟩ := mem_gAt h2
        rw [l.1] at hi
        rw [l.2] at hj
        obtain ⟨i1, i2⟩ := h.fa hi
        obtain ⟨j1, j2⟩ := h.fb hj
        have m1 := mem_names.mp i1
        have m2 := mem_names.mp j1
        refine ⟨(gAt (plcs ss 0) i).toNat, (gAt (plcs ss 1) j).toNat, by omega, by omega, ?_, by rw [Int.toNat_of_nonneg m1.1, Int.toNat_of_nonneg m2.1]⟩
        rw [i2, j2, decide_eq_true_iff]
        exact (sum_lr hW hV (gAt_in h.ia hi) (gAt_in h.ib hj)).mpr ha
    · rintro ⟨k, m, hk, hm, hp, rfl⟩
      rw [decide_eq_true_iff] at hp
      rcases h.fc hk with ⟨i, hi, k1, k2⟩ | ⟨i, hi, k1, k2⟩ <;> rcases h.fc hm with ⟨j, hj, m1, m2⟩ | ⟨j, hj, m1, m2⟩ <;> rw [k1, m1] at hp
      · exact .inl (.inl ⟨i, j, hi, hj, decide_eq_true ((sum_ll hV (gAt_in h.ia hi) (gAt_in h.ia hj)).mp hp), by rw [k2, m2]⟩)
      · refine .inr ⟨(sum_lr hW hV (gAt_in h.ia hi) (gAt_in h.ib hj)).mp hp, ?_, ?_⟩
        · rw [k2]; exact gAt_mem (by omega)
        · rw [m2]; exact gAt_mem (by omega)
      · exact absurd hp (sum_rl hW hV (gAt_in h.ib hi) (gAt_in h.ia hj))
      · exact .inl (.inr ⟨i, j, hi, hj, decide_eq_true ((sum_rr hW (gAt_in h.ib hi) (gAt_in h.ib hj)).mp hp), by rw [k2, m2]⟩)
end
theorem mix_cols {ah : Bool} {W V : Wb} (hW : Pt W) : ∀ (ss a b : List Int), Fit ss a.length b.length → (∀ x ∈ a, x ∈ names W.n) → (∀ x ∈ b, x ∈ names V.n) → (mixS W.n ss a b).map (colAt (sumW ah W V)) = mixS 0 ss (a.map (colAt W)) (b.map (colAt V))
  | [], _, _, _, _, _ => rfl
  | s :: ss, a, b, f, ha, hb => by
    unfold mixS
    by_cases e : s = 0
    · obtain ⟨k, hk, f'⟩ := f.zero e
      cases a with
      | nil => simp at hk
      | cons y a =>
        rw [if_pos e, if_pos e]
        simp only [List.map_cons, List.headD_cons, List.tail_cons]
        rw [col_l hW (ha y List.mem_cons_self), mix_cols hW ss a b (by rw [show a.length = k by simpa using hk]; exact f') (fun z hz => ha z (List.mem_cons_of_mem _ hz)) hb]
    · obtain ⟨k, hk, f'⟩ := f.one e
      cases b with
      | nil => simp at hk
      | cons y b =>
        rw [if_neg e, if_neg e]
        simp only [List.map_cons, List.headD_cons, List.tail_cons]
        rw [col_r hW (hb y List.mem_cons_self), mix_cols hW ss a b (by rw [show b.length = k by simpa using hk]; exact f') ha (fun z hz => hb z (List.mem_cons_of_mem _ hz))]
        congr 1; omega
theorem mix_snoc0 (n : Nat) (x : Int) : ∀ (ss a b : List Int), Fit ss a.length b.length → mixS n (ss ++ [0]) (a ++ [x]) b = mixS n ss a b ++ [x]
  | [], a, b, f => by
    have h1 : a = [] := List.eq_nil_of_length_eq_zero (by have := f.1; simpa using this.symm)
    subst h1
    simp [mixS]
  | s :: ss, a, b, f => by
    rw [List.cons_append]
    unfold mixS
    by_cases e : s = 0
    · obtain ⟨k, hk, f'⟩ := f.zero e
      cases a with
      | nil => simp at hk
      | cons y a =>
        rw [if_pos e, if_pos e, List.cons_append]
        simp only [List.headD_cons, List.tail_cons, List.cons_append]
        rw [mix_snoc0 n x ss a b (by rw [show a.length = k by simpa using hk]; exact f')]
    · obtain ⟨k, hk, f'⟩ := f.one e
      cases b with
      | nil => simp at hk
      | cons y b =>
        rw [if_neg e, if_neg e, List.cons_append]
        simp only [List.headD_cons, List.tail_cons]
        rw [mix_snoc0 n x ss a b (by rw [show b.length = k by simpa using hk]; exact f')]
theorem mix_snoc1 (n : Nat) (x : Int) : ∀ (ss a b : List Int), Fit ss a.length b.length → mixS n (ss ++ [1]) a (b ++ [x]) = mixS n ss a b ++ [(n : Int) + x]
  | [], a, b, f => by
    have h1 : b = [] := List.eq_nil_of_length_eq_zero (by have := f.2; simpa using this.symm)
    subst h1
    simp [mixS]
  | s :: ss, a, b, f => by
    rw [List.cons_append]
    unfold mixS
    by_cases e : s = 0
    · obtain ⟨k, hk, f'⟩ := f.zero e
      cases a with
      | nil => simp at hk
      | cons y a =>
        rw [if_pos e, if_pos e, List.cons_append]
        simp only [List.headD_cons, List.tail_cons]
        rw [mix_snoc1 n x ss a b (by rw [show a.length = k by simpa using hk]; exact f')]
    · obtain ⟨k, hk, f'⟩ := f.one e
      cases b with
      | nil => simp at hk
      | cons y b =>
        rw [if_neg e, if_neg e, List.cons_append]
        simp only [List.headD_cons, List.tail_cons, List.cons_append]
        rw [mix_snoc1 n x ss a b (by rw [show b.length = k by simpa using hk]; exact f')]
theorem Fit.snoc0 {ss : List Int} {k j : Nat} (f : Fit ss k j) : Fit (ss ++ [0]) (k + 1) j := by
  unfold Fit at *
  rw [List.countP_append, List.countP_append, f.1, f.2]
  simp
theorem Fit.snoc1 {ss : List Int} {k j : Nat} (f : Fit ss k j) : Fit (ss ++ [1]) k (j + 1) := by
  unfold Fit at *
  rw [List.countP_append, List.countP_append, f.1, f.2]
  simp
theorem Mx.snoc0 {W V : Wb} {ss a b : List Int} (h : Mx W V ss a b) {x : Int} (hx : x ∈ names W.n) : Mx W V (ss ++ [0]) (a ++ [x]) b where
  ok s hs := by
    rcases List.mem_append.mp hs with hs | hs
    · exact h.ok s hs
    · exact .inl (List.mem_singleton.mp hs)
  fit := by rw [List.length_append]; exact h.fit.snoc0
  ia y hy := by
    rcases List.mem_append.mp hy with hy | hy
    · exact h.ia y hy
    · rw [List.mem_singleton.mp hy]; exact hx
  ib := h.ib
theorem Mx.snoc1 {W V : Wb} {ss a b : List Int} (h : Mx W V ss a b) {x : Int} (hx : x ∈ names V.n) : Mx W V (ss ++ [1]) a (b ++ [x]) where
  ok s hs := by
    rcases List.mem_append.mp hs with hs | hs
    · exact h.ok s hs
    · exact .inr (List.mem_singleton.mp hs)
  fit := by rw [List.length_append]; exact h.fit.snoc1
  ia := h.ia
  ib y hy := by
    rcases List.mem_append.mp hy with hy | hy
    · exact h.ib y hy
    · rw [List.mem_singleton.mp hy]; exact hx
/-! ### types, each once, by some that have them -/
theorem once_rep (f : Int → NestedKey) (xs : List Int) : ∃ ys : List Int, (∀ y ∈ ys, y ∈ xs) ∧ ys.length ≤ xs.length ∧ onceT (xs.map f) = ys.map f := by
  have g : ∀ L : List NestedKey, (∀ k ∈ L, ∃ x ∈ xs, k = f x) → ∃ ys : List Int, (∀ y ∈ ys, y ∈ xs) ∧ L = ys.map f := by
    intro L
    induction L with
    | nil => exact fun _ => ⟨[], (fun _ h => nomatch h), rfl⟩
    | cons k L ih =>
      intro h
      obtain ⟨ys, h1, h2⟩ := ih fun k hk => h k (List.mem_cons_of_mem _ hk)
      obtain ⟨x, hx, e⟩ := h k List.mem_cons_self
      refine ⟨x :: ys, fun y hy => ?_, by rw [List.map_cons, ← e, ← h2]⟩
      rcases List.mem_cons.mp hy with rfl | hy
      · exact hx
      · exact h1 y hy
  obtain ⟨ys, h1, h2⟩ := g (onceT (xs.map f)) fun k hk => by
    obtain ⟨x, hx, e⟩ := List.mem_map.mp (mem_onceT.mp hk)
    exact ⟨x, hx, e.symm⟩
  refine ⟨ys, h1, ?_, h2⟩
  have := onceT_len (xs.map f)
  rw [h2, List.length_map, List.length_map] at this
  exact this
theorem same_refl (W : Wb) (a : List Int) : sameB W a W a = true := sameB_iff.mpr fun i _ => ⟨rfl, fun j _ => ⟨Iff.rfl, Iff.rfl⟩⟩
theorem kept_refl (W : Wb) : ∀ (r : Nat) (a : List Int), keptB W W r a a = true
  | 0, a => same_refl W a
  | r + 1, a => kept_succ.mpr ⟨same_refl W a, fun x hx => ⟨x, hx, kept_refl W r _⟩, fun x hx => ⟨x, hx, kept_refl W r _⟩⟩
theorem mix_cong {ah : Bool} {W V : Wb} (hW : Pt W) (hV : Pt V) (dW : Dg W) (dV : Dg V) (dS : Dg (sumW ah W V)) {r : Nat} {ss a b c d : List Int} (m1 : Mx W V ss a b) (m2 : Mx W V ss c d) (h1 : a.length = c.length) (h2 : b.length = d.length) (hl : ss.length + r ≤ 10)
    (e1 : tyR W r a = tyR W r c) (e2 : tyR V r b = tyR V r d) : tyR (sumW ah W V) r (mixS W.n ss a b) = tyR (sumW ah W V) r (mixS W.n ss c d) := by
  have l := m1.len
  refine (ty_kept dS dS r _ _ (by rw [mixS_len, mixS_len]) (by rw [mixS_len]; omega)).mpr ?_
  exact kept_mixed hW hV hW hV m1.fit h1 h2 m1.ia m2.ia m1.ib m2.ib ((ty_kept dW dW r a c h1 (by omega)).mp e1) ((ty_kept dV dV r b d h2 (by omega)).mp e2)
theorem mix_once {ah : Bool} {W V : Wb} (hW : Pt W) (hV : Pt V) (dW : Dg W) (dV : Dg V) (dS : Dg (sumW ah W V)) {r : Nat} {ss a b ys zs : List Int} (m : Mx W V ss a b) (hl : ss.length + (r + 1) ≤ 10)
    (hy : ∀ y ∈ ys, y ∈ names W.n) (hz : ∀ z ∈ zs, z ∈ names V.n) (ey : onceT ((names W.n).map fun x => tyR W r (a ++ [x])) = ys.map fun x => tyR W r (a ++ [x])) (ez : onceT ((names V.n).map fun x => tyR V r (b ++ [x])) = zs.map fun x => tyR V r (b ++ [x])) :
    onceT ((ys.map fun x => tyR (sumW ah W V) r (mixS W.n (ss ++ [0]) (a ++ [x]) b)) ++ zs.map fun x => tyR (sumW ah W V) r (mixS W.n (ss ++ [1]) a (b ++ [x]))) = onceT ((names (sumW ah W V).n).map fun x => tyR (sumW ah W V) r (mixS W.n ss a b ++ [x])) := by
  have lm := mixS_len W.n ss a b
  refine onceT_ext (fun k hk => ?_) fun k => ?_
  · rcases List.mem_append.mp hk with hk | hk
    · obtain ⟨x, _, rfl⟩ := List.mem_map.mp hk
      exact sm_tyR dS r _ (by rw [mixS_len, List.length_append]; simp only [List.length_cons, List.length_nil]; omega)
    · obtain ⟨x, _, rfl⟩ := List.mem_map.mp hk
      exact sm_tyR dS r _ (by rw [mixS_len, List.length_append]; simp only [List.length_cons, List.length_nil]; omega)
  · rw [List.mem_append, List.mem_map, List.mem_map, List.mem_map]
    constructor
    · rintro (⟨x, hx, rfl⟩ | ⟨x, hx, rfl⟩)
      · exact ⟨x, names_sum.mpr (.inl (hy x hx)), by rw [mix_snoc0 _ _ _ _ _ m.fit]⟩
      · exact ⟨_, names_sum.mpr (.inr ⟨x, hz x hx, rfl⟩), by rw [mix_snoc1 _ _ _ _ _ m.fit]⟩
    · rintro ⟨x, hx, rfl⟩
      rcases names_sum.mp hx with hx | ⟨x, hx2, rfl⟩
      · have q : tyR W r (a ++ [x]) ∈ ys.map fun x => tyR W r (a ++ [x]) := by
          rw [← ey]
          exact mem_onceT.mpr (List.mem_map.mpr ⟨x, hx, rfl⟩)
        obtain ⟨y, hy1, e⟩ := List.mem_map.mp q
        refine .inl ⟨y, hy1, ?_⟩
        rw [← mix_snoc0 _ x _ _ _ m.fit]
        exact mix_cong hW hV dW dV dS (m.snoc0 (hy y hy1)) (m.snoc0 hx) (by simp) rfl (by rw [List.length_append]; simp only [List.length_cons, List.length_nil]; omega) e rfl
      · have q : tyR V r (b ++ [x]) ∈ zs.map fun x => tyR V r (b ++ [x]) := by
          rw [← ez]
          exact mem_onceT.mpr (List.mem_map.mpr ⟨x, hx2, rfl⟩)
        obtain ⟨y, hy1, e⟩ := List.mem_map.mp q
        refine .inr ⟨y, hy1, ?_⟩
        rw [← mix_snoc1 _ x _ _ _ m.fit]
        exact mix_cong hW hV dW dV dS (m.snoc1 (hz y hy1)) (m.snoc1 hx2) rfl (by simp) (by rw [List.length_append]; simp only [List.length_cons, List.length_nil]; omega) rfl e
end G

set_option Elab.async false
set_option linter.all false
set_option maxRecDepth 100000
set_option maxHeartbeats 4000000
/- webs alike by all rows, walked -/
namespace G
open PySem L2 PySem.Spec PyProof.Rows
/-! ### all rows of unlike names -/
def rowsN (n : Nat) : Nat → List (List Int)
  | 0 => [[]]
  | k + 1 => (rowsN n k).flatMap fun row => ((names n).filter fun y => !decide (y ∈ row)).map fun y => row ++ [y]
theorem mem_rowsN {n : Nat} {b : List Int} : ∀ {k : Nat}, b ∈ rowsN n k ↔ b.length = k ∧ b.Nodup ∧ ∀ y ∈ b, y ∈ names n := by
  intro k
  induction k generalizing b with
  | zero =>
    unfold rowsN
    constructor
    · intro h
      rw [List.mem_singleton.mp h]
      simp
    · rintro ⟨h, _⟩
      rw [List.eq_nil_of_length_eq_zero h]
      simp
  | succ k ih =>
    unfold rowsN
    rw [List.mem_flatMap]
    constructor
    · rintro ⟨row, hr, h⟩
      obtain ⟨y, hy, rfl⟩ := List.mem_map.mp h
      obtain ⟨h1, h2⟩ := List.mem_filter.mp hy
      obtain ⟨q1, q2, q3⟩ := ih.mp hr
      refine ⟨by simp [q1], ?_, fun z hz => ?_⟩
      · rw [List.nodup_append]
        refine ⟨q2, by simp, fun u hu v hv e => ?_⟩
        rw [List.mem_singleton.mp hv] at e
        simp only [Bool.not_eq_true', decide_eq_false_iff_not] at h2
        exact h2 (e ▸ hu)
      · rcases List.mem_append.mp hz with hz | hz
        · exact q3 z hz
        · rw [List.mem_singleton.mp hz]; exact h1
    · rintro ⟨h1, h2, h3⟩
      have ne : b ≠ [] := fun e => by rw [e] at h1; simp at h1
      have e := List.dropLast_concat_getLast ne
      rw [← e] at h1 h2 h3 ⊢
      generalize b.dropLast = row at h1 h2 h3 ⊢
      generalize b.getLast ne = y at h1 h2 h3 ⊢
      rw [List.nodup_append] at h2
      refine ⟨row, ih.mpr ⟨by simpa using h1, h2.1, fun z hz => h3 z (List.mem_append_left _ hz)⟩, List.mem_map.mpr ⟨y, List.mem_filter.mpr ⟨h3 y (List.mem_append_right _ List.mem_cons_self), ?_⟩, rfl⟩⟩
      have : y ∉ row := fun z => h2.2.2 y z y List.mem_cons_self rfl
      simp [this]
theorem rowsN_len {n : Nat} : ∀ k : Nat, (rowsN n k).length ≤ n ^ k
  | 0 => by simp [rowsN]
  | k + 1 => by
    unfold rowsN
    have : ∀ l : List (List Int), (l.flatMap fun row => ((names n).filter fun y => !decide (y ∈ row)).map fun y => row ++ [y]).length ≤ l.length * n := by
      intro l
      induction l with
      | nil => simp
      | cons row l ih =>
        rw [List.flatMap_cons, List.length_append, List.length_map, List.length_cons, Nat.succ_mul]
        have := List.length_filter_le (fun y => !decide (y ∈ row)) (names n)
        rw [names_len] at this
        omega
    have h1 := this (rowsN n k)
    have h2 := Nat.mul_le_mul_right n (rowsN_len (n := n) k)
    rw [Nat.pow_succ]
    omega
def alikeB (W V : Wb) : Bool := decide (W.n = V.n) && (rowsN V.n W.n).any fun b => sameB W (names W.n) V b
section
variable {P : Program} {w : World} {K : PySem.W.Frag} {mg : Str → Option Value} {base : Heap}
end
end G

set_option Elab.async false
set_option linter.all false
set_option maxRecDepth 100000
set_option maxHeartbeats 4000000
namespace G
open PySem L2 PySem.Spec PyProof.Rows
theorem kept_alike {W V : Wb} (h : alikeB W V = true) (r : Nat) : keptB W V r [] [] = true := by
  unfold alikeB at h
  rw [Bool.and_eq_true, decide_eq_true_iff] at h
  obtain ⟨b, hb, hs⟩ := List.any_eq_true.mp h.2
  obtain ⟨q1, q2, q3⟩ := mem_rowsN.mp hb
  exact kept_iso h.1 q1 q2 q3 hs r [] fun _ z => (nomatch z)
theorem kept_full {W V : Wb} (h : keptB W V (1 + W.n) [] [] = true) : V.n ≤ W.n ∧ (W.n ≤ V.n → alikeB W V = true) := by
  obtain ⟨ys, l1, l2, l3⟩ := kept_forth (r := 1) (names W.n) [] [] (fun x hx => hx) (by rw [names_len]; exact h)
  rw [List.nil_append, List.nil_append] at l3
  rw [names_len] at l1
  obtain ⟨h1, _, h3⟩ := kept_succ.mp l3
  have cov : ∀ y ∈ names V.n, y ∈ ys := fun y hy => by
    obtain ⟨x, hx, q⟩ := h3 y hy
    have q := sameB_iff.mp q
    have hi : x.toNat < W.n := by have := mem_names.mp hx; omega
    have q2 := ((q x.toNat (by rw [List.length_append, names_len]; omega)).2 W.n (by rw [List.length_append, names_len]; simp)).1
    have e1 : gAt (names W.n ++ [x]) x.toNat = x := by rw [gAt_left (by rw [names_len]; exact hi), gAt_names hx]
    have e2 : gAt (names W.n ++ [x]) W.n = x := by
      have := gAt_last (names W.n) x
      rw [names_len] at this; exact this
    have e3 : gAt (ys ++ [y]) W.n = y := by
      have := gAt_last ys y
      rw [l1] at this; exact this
    have q3 := q2.mp (by rw [e1, e2])
    rw [e3, gAt_left (by omega)] at q3
    rw [← q3]
    exact gAt_mem (by omega)
  have le : V.n ≤ W.n := by
    have := nodup_le (names_nd V.n) cov
    rw [names_len, l1] at this
    exact this
  refine ⟨le, fun ge => ?_⟩
  have hs := sameB_iff.mp h1
  rw [names_len] at hs
  have nd : ys.Nodup := by
    rw [List.Nodup, List.pairwise_iff_getElem]
    intro i j hi hj hij e
    have q := ((hs i (by omega)).2 j (by omega)).1
    have g : ∀ k (hk : k < ys.length), gAt ys k = ys[k] := fun k hk => by
      unfold gAt
      rw [List.getD_eq_getElem?_getD, List.getElem?_eq_getElem hk]; rfl
    have gn : ∀ k, k < W.n → gAt (names W.n) k = (k : Int) := fun k hk => by
      have := gAt_names (n := W.n) (x := (k : Int)) (mem_names.mpr ⟨by omega, by omega⟩)
      rw [Int.toNat_natCast] at this
      exact this
    rw [g i hi, g j hj, gn i (by omega), gn j (by omega)] at q
    have := q.mpr e
    omega
  unfold alikeB
  rw [decide_eq_true (by omega : W.n = V.n), Bool.true_and]
  exact List.any_eq_true.mpr ⟨ys, mem_rowsN.mpr ⟨l1, nd, l2⟩, h1⟩
theorem kept_min {W V : Wb} (h : keptB W V (min W.n V.n + 1) [] [] = true) : alikeB W V = true := by
  by_cases c : W.n ≤ V.n
  · rw [Nat.min_eq_left c, Nat.add_comm] at h
    exact (kept_full h).2 c
  · rw [Nat.min_eq_right (by omega), Nat.add_comm, kept_swap] at h
    have := (kept_full h).1
    omega
end G

set_option Elab.async false
set_option linter.all false
set_option maxRecDepth 100000
set_option maxHeartbeats 4000000
/- a web many times beside itself: mathematics -/
namespace G
open PySem PySem.Spec PyProof.Rows
/-- one web beside itself, so many times more -/
def tW (W : Wb) : Nat → Wb
  | 0 => W
  | k + 1 => sumW false (tW W k) W
theorem tW_n (W : Wb) : ∀ k : Nat, (tW W k).n = W.n * (k + 1)
  | 0 => (Nat.mul_one _).symm
  | k + 1 => by
    show (tW W k).n + W.n = _
    rw [tW_n W k, Nat.mul_succ W.n (k + 1)]
theorem sum_pt {ah : Bool} {W V : Wb} (hW : Pt W) (hV : Pt V) : Pt (sumW ah W V) := by
  refine ⟨by show (W.col ++ V.col).length = W.n + V.n; rw [List.length_append, hW.lc, hV.lc], fun p hp => ?_⟩
  obtain ⟨x, y⟩ := p
  show x ∈ names (W.n + V.n) ∧ y ∈ names (W.n + V.n)
  rcases mem_sum.mp hp with h | ⟨u, v, h, rfl, rfl⟩ | ⟨_, h, z, hz, rfl⟩
  · exact ⟨names_sum.mpr (.inl (hW.ins _ h).1), names_sum.mpr (.inl (hW.ins _ h).2)⟩
  · exact ⟨names_sum.mpr (.inr ⟨u, (hV.ins _ h).1, rfl⟩), names_sum.mpr (.inr ⟨v, (hV.ins _ h).2, rfl⟩)⟩
  · exact ⟨names_sum.mpr (.inl h), names_sum.mpr (.inr ⟨z, hz, rfl⟩)⟩
theorem tW_pt {W : Wb} (h : Pt W) : ∀ k : Nat, Pt (tW W k)
  | 0 => h
  | k + 1 => sum_pt (tW_pt h k) h
theorem tW_col {W : Wb} (hc : ∀ c ∈ W.col, 0 ≤ c ∧ c < 10) : ∀ k : Nat, ∀ c ∈ (tW W k).col, 0 ≤ c ∧ c < 10
  | 0 => hc
  | k + 1 => fun c h => (List.mem_append.mp h).elim (tW_col hc k c) (hc c)
theorem tW_al (W : Wb) : ∀ k : Nat, (tW W k).arr.length = W.arr.length * (k + 1)
  | 0 => (Nat.mul_one _).symm
  | k + 1 => by
    show (srtP (sumA false (tW W k) W)).length = _
    rw [srtP_len]
    unfold sumA
    rw [List.length_append, List.length_append, List.length_map, tW_al W k, Nat.mul_succ W.arr.length (k + 1)]
    simp
/-- a name of one of the copies -/
def nmC (W : Wb) (i : Nat) (x : Int) : Int := ((W.n * i : Nat) : Int) + x
theorem nmC_in {W : Wb} {k i : Nat} {x : Int} (hi : i ≤ k) (hx : x ∈ names W.n) : nmC W i x ∈ names (tW W k).n := by
  obtain ⟨x0, x1⟩ := mem_names.mp hx
  rw [tW_n]
  have := Nat.mul_le_mul_left W.n hi
  have e : W.n * (k + 1) = W.n * k + W.n := Nat.mul_succ _ _
  unfold nmC
  exact mem_names.mpr ⟨by omega, by omega⟩
theorem nmC_last {W : Wb} (k : Nat) (x : Int) : nmC W (k + 1) x = ((tW W k).n : Int) + x := by
  unfold nmC
  rw [tW_n]
theorem names_tW {W : Wb} : ∀ {k : Nat} {z : Int}, z ∈ names (tW W k).n → ∃ i, i ≤ k ∧ ∃ x ∈ names W.n, z = nmC W i x
  | 0, z, h => ⟨0, Nat.le_refl _, z, h, by unfold nmC; simp⟩
  | k + 1, z, h => by
    rcases names_sum.mp (show z ∈ names ((tW W k).n + W.n) from h) with h | ⟨x, hx, rfl⟩
    · obtain ⟨i, hi, x, hx, e⟩ := names_tW h
      exact ⟨i, Nat.le_succ_of_le hi, x, hx, e⟩
    · exact ⟨k + 1, Nat.le_refl _, x, hx, (nmC_last k x).symm⟩
theorem nmC_eq {W : Wb} {i j : Nat} {x y : Int} (hx : x ∈ names W.n) (hy : y ∈ names W.n) : nmC W i x = nmC W j y ↔ i = j ∧ x = y := by
  obtain ⟨x0, x1⟩ := mem_names.mp hx
  obtain ⟨y0, y1⟩ := mem_names.mp hy
  unfold nmC
  constructor
  · intro h
    rcases Nat.lt_trichotomy i j with c | c | c
    · have := Nat.mul_le_mul_left W.n (Nat.succ_le_of_lt c)
      rw [Nat.succ_eq_add_one, Nat.mul_succ] at this
      omega
    · subst c
      exact ⟨rfl, by omega⟩
    · have := Nat.mul_le_mul_left W.n (Nat.succ_le_of_lt c)
      rw [Nat.succ_eq_add_one, Nat.mul_succ] at this
      omega
  · rintro ⟨rfl, rfl⟩; rfl
theorem tW_colAt {W : Wb} (h : Pt W) {x : Int} (hx : x ∈ names W.n) : ∀ {k i : Nat}, i ≤ k → colAt (tW W k) (nmC W i x) = colAt W x
  | 0, i, hi => by
    obtain rfl : i = 0 := by omega
    show colAt W _ = _
    unfold nmC; simp
  | k + 1, i, hi => by
    show colAt (sumW false (tW W k) W) _ = _
    by_cases c : i ≤ k
    · rw [col_l (tW_pt h k) (nmC_in c hx)]
      exact tW_colAt h hx c
    · obtain rfl : i = k + 1 := by omega
      rw [nmC_last, col_r (tW_pt h k) hx]
theorem tW_arrAt {W : Wb} (h : Pt W) {x y : Int} (hx : x ∈ names W.n) (hy : y ∈ names W.n) : ∀ {k i j : Nat}, i ≤ k → j ≤ k → ((nmC W i x, nmC W j y) ∈ (tW W k).arr ↔ i = j ∧ (x, y) ∈ W.arr)
  | 0, i, j, hi, hj => by
    obtain rfl : i = 0 := by omega
    obtain rfl : j = 0 := by omega
    have e : ∀ z : Int, nmC W 0 z = z := fun z => by unfold nmC; simp
    rw [e, e]
    simp [tW]
  | k + 1, i, j, hi, hj => by
    show _ ∈ (sumW false (tW W k) W).arr ↔ _
    have hk := tW_pt h k
    by_cases ci : i ≤ k
    · by_cases cj : j ≤ k
      · rw [sum_ll h (nmC_in ci hx) (nmC_in cj hy)]
        exact tW_arrAt h hx hy ci cj
      · obtain rfl : j = k + 1 := by omega
        rw [nmC_last, sum_lr hk h (nmC_in ci hx) hy]
        exact iff_of_false (by simp) fun z => by omega
    · obtain rfl : i = k + 1 := by omega
      by_cases cj : j ≤ k
      · rw [nmC_last]
        exact iff_of_false (sum_rl hk h hx (nmC_in cj hy)) fun z => by omega
      · obtain rfl : j = k + 1 := by omega
        rw [nmC_last, nmC_last, sum_rr hk hx hy]
        simp
/-! ### copies held beside copies -/
structure Cp (k k' : Nat) (M : List (Nat × Nat)) : Prop where
  le : ∀ p ∈ M, p.1 ≤ k ∧ p.2 ≤ k'
  inj : ∀ p ∈ M, ∀ q ∈ M, (p.1 = q.1 ↔ p.2 = q.2)
def Of (W : Wb) (M : List (Nat × Nat)) (P : Ps) : Prop := ∀ z ∈ P, ∃ p ∈ M, ∃ x ∈ names W.n, z = (nmC W p.1 x, nmC W p.2 x)
theorem Of.snoc {W : Wb} {M : List (Nat × Nat)} {P : Ps} (h : Of W M P) {p : Nat × Nat} (hp : p ∈ M) {x : Int} (hx : x ∈ names W.n) : Of W M (P ++ [(nmC W p.1 x, nmC W p.2 x)]) := fun z hz => by
  rcases List.mem_append.mp hz with hz | hz
  · exact h z hz
  · exact ⟨p, hp, x, hx, List.mem_singleton.mp hz⟩
theorem Of.more {W : Wb} {M : List (Nat × Nat)} {P : Ps} (h : Of W M P) (p : Nat × Nat) : Of W (p :: M) P := fun z hz => let ⟨q, hq, r⟩ := h z hz; ⟨q, List.mem_cons_of_mem _ hq, r⟩
theorem of_same {W : Wb} (h : Pt W) {k k' : Nat} {M : List (Nat × Nat)} {P : Ps} (c : Cp k k' M) (o : Of W M P) : sameP (tW W k) (tW W k') P := by
  intro z hz
  obtain ⟨p, hp, x, hx, rfl⟩ := o z hz
  obtain ⟨p1, p2⟩ := c.le p hp
  refine ⟨by rw [tW_colAt h hx p1, tW_colAt h hx p2], fun u hu => ?_⟩
  obtain ⟨q, hq, y, hy, rfl⟩ := o u hu
  obtain ⟨q1, q2⟩ := c.le q hq
  dsimp only
  rw [nmC_eq hx hy, nmC_eq hx hy, tW_arrAt h hx hy p1 q1, tW_arrAt h hx hy p2 q2, c.inj p hp q hq]
  exact ⟨Iff.rfl, Iff.rfl⟩
theorem free_at {l : List Nat} {k : Nat} (h : l.length < k + 1) : ∃ i, i ≤ k ∧ i ∉ l := by
  refine Classical.byContradiction fun no => ?_
  have := nodup_le (l := List.range (k + 1)) (m := l) List.nodup_range fun i hi => Classical.byContradiction fun z => no ⟨i, by have := List.mem_range.mp hi; omega, z⟩
  rw [List.length_range] at this
  omega
theorem Cp.more {k k' : Nat} {M : List (Nat × Nat)} (c : Cp k k' M) {i j : Nat} (hi : i ≤ k) (hj : j ≤ k') (ni : i ∉ M.map (·.1)) (nj : j ∉ M.map (·.2)) : Cp k k' ((i, j) :: M) := by
  refine ⟨fun p hp => ?_, fun p hp q hq => ?_⟩
  · rcases List.mem_cons.mp hp with rfl | hp
    · exact ⟨hi, hj⟩
    · exact c.le p hp
  · rcases List.mem_cons.mp hp with rfl | hp <;> rcases List.mem_cons.mp hq with rfl | hq
    · simp
    · exact iff_of_false (fun e => ni (List.mem_map.mpr ⟨q, hq, e.symm⟩)) (fun e => nj (List.mem_map.mpr ⟨q, hq, e.symm⟩))
    · exact iff_of_false (fun e => ni (List.mem_map.mpr ⟨p, hp, e⟩)) (fun e => nj (List.mem_map.mpr ⟨p, hp, e⟩))
    · exact c.inj p hp q hq
theorem kept_copies {W : Wb} (h : Pt W) {k k' : Nat} : ∀ (r : Nat) (M : List (Nat × Nat)) (P : Ps), Cp k k' M → Of W M P → M.length + r ≤ k + 1 → M.length + r ≤ k' + 1 → keptP (tW W k) (tW W k') r P
  | 0, M, P, c, o, _, _ => of_same h c o
  | r + 1, M, P, c, o, l1, l2 => by
    refine ⟨of_same h c o, fun u hu => ?_, fun u hu => ?_⟩
    · obtain ⟨i, hi, x, hx, rfl⟩ := names_tW hu
      by_cases m : i ∈ M.map (·.1)
      · obtain ⟨p, hp, rfl⟩ := List.mem_map.mp m
        exact ⟨_, nmC_in (c.le p hp).2 hx, kept_copies h r M _ c (o.snoc hp hx) (by omega) (by omega)⟩
      · obtain ⟨j, hj, nj⟩ := free_at (l := M.map (·.2)) (k := k') (by rw [List.length_map]; omega)
        exact ⟨_, nmC_in hj hx, kept_copies h r ((i, j) :: M) _ (c.more hi hj m nj) ((o.more (i, j)).snoc (p := (i, j)) List.mem_cons_self hx) (by simp only [List.length_cons]; omega) (by simp only [List.length_cons]; omega)⟩
    · obtain ⟨j, hj, x, hx, rfl⟩ := names_tW hu
      by_cases m : j ∈ M.map (·.2)
      · obtain ⟨p, hp, rfl⟩ := List.mem_map.mp m
        exact ⟨_, nmC_in (c.le p hp).1 hx, kept_copies h r M _ c (o.snoc hp hx) (by omega) (by omega)⟩
      · obtain ⟨i, hi, ni⟩ := free_at (l := M.map (·.1)) (k := k) (by rw [List.length_map]; omega)
        exact ⟨_, nmC_in hi hx, kept_copies h r ((i, j) :: M) _ (c.more hi hj ni m) ((o.more (i, j)).snoc (p := (i, j)) List.mem_cons_self hx) (by simp only [List.length_cons]; omega) (by simp only [List.length_cons]; omega)⟩
theorem tW_dg {W : Wb} (h : Pt W) (hc : ∀ c ∈ W.col, 0 ≤ c ∧ c < 10) {k : Nat} (hn : W.n * (k + 1) ≤ 9) : Dg (tW W k) := ⟨⟨by rw [tW_n]; omega, (tW_pt h k).lc⟩, by rw [tW_n]; exact hn, tW_col hc k⟩
theorem kept_times {W : Wb} (h : Pt W) (hc : ∀ c ∈ W.col, 0 ≤ c ∧ c < 10) {k k' r : Nat} (hr : r ≤ 10) (hn : W.n * (k + 1) ≤ 9) (d : k = k' ∨ r ≤ min (k + 1) (k' + 1)) : keptB (tW W k) (tW W k') r [] [] = true := by
  rcases d with rfl | d
  · exact (ty_kept (tW_dg h hc hn) (tW_dg h hc hn) r [] [] rfl (by simpa using hr)).mp rfl
  · exact (kept_zip r [] [] rfl).mpr (kept_copies h r [] [] ⟨fun _ z => (nomatch z), fun _ z => (nomatch z)⟩ (fun _ z => (nomatch z)) (by simp only [List.length_nil]; omega) (by simp only [List.length_nil]; omega))
/-- of single names exactly then -/
theorem kept_single {W : Wb} (h1 : W.n = 1) (h : Pt W) (hc : ∀ c ∈ W.col, 0 ≤ c ∧ c < 10) {k k' r : Nat} (hr : r ≤ 10) (hn : k + 1 ≤ 9) : keptB (tW W k) (tW W k') r [] [] = (decide (k = k') || decide (r ≤ min (k + 1) (k' + 1))) := by
  rw [Bool.eq_iff_iff, Bool.or_eq_true, decide_eq_true_iff, decide_eq_true_iff]
  constructor
  · intro q
    by_cases c : r ≤ min (k + 1) (k' + 1)
    · exact .inr c
    · left
      have e1 : (tW W k).n = k + 1 := by rw [tW_n, h1, Nat.one_mul]
      have e2 : (tW W k').n = k' + 1 := by rw [tW_n, h1, Nat.one_mul]
      obtain ⟨d, hd⟩ : ∃ d, r = (min (tW W k).n (tW W k').n + 1) + d := ⟨r - (min (tW W k).n (tW W k').n + 1), by rw [e1, e2]; omega⟩
      rw [hd] at q
      have := kept_min (kept_le q)
      unfold alikeB at this
      rw [Bool.and_eq_true, decide_eq_true_iff] at this
      omega
  · exact kept_times h hc hr (by rw [h1]; omega)
end G

set_option Elab.async false
set_option linter.all false
set_option maxRecDepth 100000
set_option maxHeartbeats 4000000
/- sums of webs: mathematics -/
namespace G
open PySem PySem.Spec PyProof.Rows
theorem srtP_perm {l m : List (Int × Int)} (h : l.Perm m) : srtP l = srtP m := by
  refine List.Perm.eq_of_pairwise (le := fun p q => PySem.W.dataLe false id (pK p).data (pK q).data = true) (fun a b _ _ l1 l2 => pK_inj (dle_antisymm rfl l1 l2)) ?_ ?_ (((List.mergeSort_perm _ _).trans h).trans (List.mergeSort_perm _ _).symm)
  · exact List.pairwise_mergeSort (le := fun a b : Int × Int => PySem.W.dataLe false id (pK a).data (pK b).data) (fun a b c => dle_trans (pK a).data (pK b).data (pK c).data) (fun a b => dle_total (pK a).data (pK b).data) l
  · exact List.pairwise_mergeSort (le := fun a b : Int × Int => PySem.W.dataLe false id (pK a).data (pK b).data) (fun a b c => dle_trans (pK a).data (pK b).data (pK c).data) (fun a b => dle_total (pK a).data (pK b).data) m
theorem srtP_self (l : List (Int × Int)) : (srtP l).Perm l := List.mergeSort_perm _ _
structure Gd (W : Wb) : Prop extends Pt W where
  nd : W.arr.Nodup
theorem Gd.al {W : Wb} (h : Gd W) : W.arr.length ≤ W.n * W.n := by
  have := nodup_le (m := prodL W.n) h.nd fun q hq => by
    obtain ⟨h1, h2⟩ := h.ins q hq
    exact List.mem_flatMap.mpr ⟨q.1, h1, List.mem_map.mpr ⟨q.2, h2, rfl⟩⟩
  rw [prodL_len] at this
  exact this
theorem mem_sumA {ah : Bool} {W V : Wb} {x y : Int} : (x, y) ∈ sumA ah W V ↔ (x, y) ∈ W.arr ∨ (∃ u v, (u, v) ∈ V.arr ∧ x = (W.n : Int) + u ∧ y = (W.n : Int) + v) ∨ (ah = true ∧ x ∈ names W.n ∧ ∃ z ∈ names V.n, y = (W.n : Int) + z) := by
  rw [← mem_sum]
  exact srtP_mem.symm
theorem names_nd' (n : Nat) : (names n).Nodup := (names_pw n).imp fun h => by omega
theorem ahL_nd (n m : Nat) : (ahL n m).Nodup := by
  refine ltP_nodup ?_
  unfold ahL
  rw [List.pairwise_flatMap]
  refine ⟨fun i _ => ?_, (names_pw n).imp fun {x y} h z hz u hu => ?_⟩
  · rw [List.pairwise_map]
    exact (names_pw m).imp fun h => .inr ⟨rfl, by dsimp only; omega⟩
  · obtain ⟨_, _, rfl⟩ := List.mem_map.mp hz
    obtain ⟨_, _, rfl⟩ := List.mem_map.mp hu
    exact .inl h
theorem map_nd {α β : Type} {f : α → β} {l : List α} (h : l.Nodup) (hf : ∀ x ∈ l, ∀ y ∈ l, f x = f y → x = y) : (l.map f).Nodup := by
  rw [List.Nodup, List.pairwise_map]
  exact h.imp_of_mem fun hx hy hne e => hne (hf _ hx _ hy e)
theorem shI_inj {n : Nat} {p q : Int × Int} (e : shI n p = shI n q) : p = q := by
  obtain ⟨a, b⟩ := p
  obtain ⟨c, d⟩ := q
  injection e with e1 e2
  dsimp only at e1 e2
  rw [show a = c by omega, show b = d by omega]
theorem sumA_nd {ah : Bool} {W V : Wb} (hW : Gd W) (hV : Gd V) : (sumA ah W V).Nodup := by
  unfold sumA
  refine List.nodup_append.mpr ⟨List.nodup_append.mpr ⟨hW.nd, map_nd hV.nd fun _ _ _ _ => shI_inj, ?_⟩, ?_, ?_⟩
  · rintro ⟨x, y⟩ h1 q h2 e
    obtain ⟨⟨u, v⟩, h3, rfl⟩ := List.mem_map.mp h2
    injection e with e1 e2
    have := mem_names.mp (hW.ins _ h1).1
    have := mem_names.mp (hV.ins _ h3).1
    dsimp only at *
    omega
  · split
    · exact ahL_nd _ _
    · exact .nil
  · rintro ⟨x, y⟩ h1 q h2 e
    subst e
    split at h2
    · obtain ⟨h3, z, hz, rfl⟩ := mem_ahL.mp h2
      have m1 := mem_names.mp h3
      have m2 := mem_names.mp hz
      rcases List.mem_append.mp h1 with h1 | h1
      · have := mem_names.mp (hW.ins _ h1).2
        dsimp only at this
        omega
      · obtain ⟨⟨u, v⟩, h4, e⟩ := List.mem_map.mp h1
        injection e with e1 e2
        have := mem_names.mp (hV.ins _ h4).1
        dsimp only at *
        omega
    · cases h2
theorem sum_gd {ah : Bool} {W V : Wb} (hW : Gd W) (hV : Gd V) : Gd (sumW ah W V) := ⟨sum_pt hW.toPt hV.toPt, (srtP_self _).nodup_iff.mpr (sumA_nd hW hV)⟩
theorem wb_ext {W V : Wb} (h1 : W.n = V.n) (h2 : W.col = V.col) (h3 : W.arr = V.arr) : W = V := by
  cases W; cases V
  simp only at h1 h2 h3
  rw [h1, h2, h3]
theorem arr_ext {l m : List (Int × Int)} (h1 : l.Nodup) (h2 : m.Nodup) (h : ∀ x y, (x, y) ∈ l ↔ (x, y) ∈ m) : srtP l = srtP m :=
  srtP_perm ((List.perm_ext_iff_of_nodup h1 h2).mpr fun q => h q.1 q.2)
theorem sumW_n (ah : Bool) (W V : Wb) : (sumW ah W V).n = W.n + V.n := rfl
theorem sum_assoc {ah : Bool} {W V U : Wb} (hW : Gd W) (hV : Gd V) (hU : Gd U) : sumW ah (sumW ah W V) U = sumW ah W (sumW ah V U) := by
  refine wb_ext (Nat.add_assoc _ _ _) (List.append_assoc _ _ _) ?_
  refine arr_ext (sumA_nd (sum_gd hW hV) hU) (sumA_nd hW (sum_gd hV hU)) fun x y => ?_
  rw [mem_sumA, mem_sumA, mem_sum, sumW_n, sumW_n]
  constructor
  · rintro ((h | ⟨u, v, h, rfl, rfl⟩ | ⟨ha, h1, z, hz, rfl⟩) | ⟨u, v, h, rfl, rfl⟩ | ⟨ha, h1, z, hz, rfl⟩)
    · exact .inl h
    · exact .inr (.inl ⟨u, v, mem_sum.mpr (.inl h), rfl, rfl⟩)
    · exact .inr (.inr ⟨ha, h1, z, names_sum.mpr (.inl hz), rfl⟩)
    · exact .inr (.inl ⟨(V.n : Int) + u, (V.n : Int) + v, mem_sum.mpr (.inr (.inl ⟨u, v, h, rfl, rfl⟩)), by omega, by omega⟩)
    · rcases names_sum.mp h1 with h1 | ⟨x', hx, rfl⟩
      · exact .inr (.inr ⟨ha, h1, (V.n : Int) + z, names_sum.mpr (.inr ⟨z, hz, rfl⟩), by omega⟩)
      · exact .inr (.inl ⟨x', (V.n : Int) + z, mem_sum.mpr (.inr (.inr ⟨ha, hx, z, hz, rfl⟩)), rfl, by omega⟩)
  · rintro (h | ⟨u, v, h, rfl, rfl⟩ | ⟨ha, h1, z, hz, rfl⟩)
    · exact .inl (.inl h)
    · rcases mem_sum.mp h with h' | ⟨u', v', h', rfl, rfl⟩ | ⟨ha, h1, z, hz, rfl⟩
      · exact .inl (.inr (.inl ⟨u, v, h', rfl, rfl⟩))
      · exact .inr (.inl ⟨u', v', h', by omega, by omega⟩)
      · exact .inr (.inr ⟨ha, names_sum.mpr (.inr ⟨u, h1, rfl⟩), z, hz, by omega⟩)
    · rcases names_sum.mp hz with hz' | ⟨z', hz', rfl⟩
      · exact .inl (.inr (.inr ⟨ha, h1, z, hz', rfl⟩))
      · exact .inr (.inr ⟨ha, names_sum.mpr (.inl h1), z', hz', by omega⟩)
/-! ### many of them -/
def sumL (ah : Bool) (W : Wb) (Ws : List Wb) : Wb := Ws.foldl (sumW ah) W
theorem sumL_gd {ah : Bool} : ∀ {Ws : List Wb} {W : Wb}, Gd W → (∀ V ∈ Ws, Gd V) → Gd (sumL ah W Ws)
  | [], _, h, _ => h
  | V :: Ws, W, h, hs => sumL_gd (Ws := Ws) (sum_gd h (hs V List.mem_cons_self)) fun U hU => hs U (List.mem_cons_of_mem _ hU)
theorem sumL_le {ah : Bool} : ∀ {Ws : List Wb} {W : Wb}, W.n ≤ (sumL ah W Ws).n
  | [], _ => Nat.le_refl _
  | V :: Ws, W => Nat.le_trans (Nat.le_add_right W.n V.n) (sumL_le (Ws := Ws) (W := sumW ah W V))
theorem sumL_snoc {ah : Bool} {W V : Wb} {Ws : List Wb} : sumL ah W (Ws ++ [V]) = sumW ah (sumL ah W Ws) V := by
  unfold sumL
  rw [List.foldl_append]; rfl
theorem sumL_take {ah : Bool} {W : Wb} {Ws : List Wb} (k : Nat) : (sumL ah W (Ws.take k)).n ≤ (sumL ah W Ws).n := by
  have e : sumL ah W Ws = sumL ah (sumL ah W (Ws.take k)) (Ws.drop k) := by
    unfold sumL
    rw [← List.foldl_append, List.take_append_drop]
  rw [e]
  exact sumL_le
/-! ### turned about, exchanged -/
def swP (q : Int × Int) : Int × Int := (q.2, q.1)
def trW (W : Wb) : Wb := ⟨W.n, W.col, srtP (W.arr.map swP)⟩
theorem swP_inj {p q : Int × Int} (e : swP p = swP q) : p = q := by
  obtain ⟨a, b⟩ := p
  obtain ⟨c, d⟩ := q
  injection e with e1 e2
  dsimp only at e1 e2
  rw [e1, e2]
theorem tr_gd {W : Wb} (h : Gd W) : Gd (trW W) := by
  refine ⟨⟨h.lc, fun p hp => ?_⟩, (srtP_self _).nodup_iff.mpr (map_nd h.nd fun _ _ _ _ => swP_inj)⟩
  obtain ⟨q, hq, rfl⟩ := List.mem_map.mp (srtP_mem.mp hp)
  exact ⟨(h.ins q hq).2, (h.ins q hq).1⟩
/-- a name, the first k names put behind the others -/
def exN (k n : Nat) (x : Int) : Int := if x < k then ((n - k : Nat) : Int) + x else x - k
def exP (k n : Nat) (q : Int × Int) : Int × Int := (exN k n q.1, exN k n q.2)
def exW (k : Nat) (W : Wb) : Wb := ⟨W.n, W.col.drop k ++ W.col.take k, srtP (W.arr.map (exP k W.n))⟩
theorem exN_l {k m : Nat} {x : Int} (h : x ∈ names k) : exN k (k + m) x = (m : Int) + x := by
  have := mem_names.mp h
  unfold exN
  rw [if_pos this.2]
  omega
theorem exN_r {k n : Nat} {x : Int} (h : 0 ≤ x) : exN k n ((k : Int) + x) = x := by
  unfold exN
  rw [if_neg (by omega)]
  omega
theorem exP_l {k m : Nat} {q : Int × Int} (h : q.1 ∈ names k ∧ q.2 ∈ names k) : exP k (k + m) q = shI m q := by
  unfold exP shI
  rw [exN_l h.1, exN_l h.2]
theorem exP_r {k n m : Nat} {q : Int × Int} (h : q.1 ∈ names m ∧ q.2 ∈ names m) : exP k n (shI k q) = q := by
  unfold exP shI
  rw [exN_r (mem_names.mp h.1).1, exN_r (mem_names.mp h.2).1]
theorem ex_beside {W V : Wb} (hW : Gd W) (hV : Gd V) : exW W.n (sumW false W V) = sumW false V W := by
  refine wb_ext (Nat.add_comm _ _) ?_ ?_
  · show (W.col ++ V.col).drop W.n ++ (W.col ++ V.col).take W.n = V.col ++ W.col
    rw [← hW.lc, List.drop_left, List.take_left]
  · show srtP ((srtP (sumA false W V)).map (exP W.n (W.n + V.n))) = srtP (sumA false V W)
    refine srtP_perm (((srtP_self _).map _).trans ?_)
    unfold sumA
    simp only [Bool.false_eq_true, if_false, List.append_nil, List.map_append, List.map_map]
    have e1 : W.arr.map (exP W.n (W.n + V.n)) = W.arr.map (shI V.n) := List.map_congr_left fun q hq => exP_l (hW.ins q hq)
    have e2 : V.arr.map (exP W.n (W.n + V.n) ∘ shI W.n) = V.arr := by
      refine (List.map_congr_left fun q hq => ?_).trans (List.map_id _)
      exact exP_r (hV.ins q hq)
    rw [e1, e2]
    exact List.perm_append_comm
theorem tr_beside {W V : Wb} : trW (sumW false W V) = sumW false (trW W) (trW V) := by
  refine wb_ext rfl rfl ?_
  show srtP ((srtP (sumA false W V)).map swP) = srtP (sumA false (trW W) (trW V))
  refine srtP_perm (((srtP_self _).map _).trans ?_)
  unfold sumA
  simp only [Bool.false_eq_true, if_false, List.append_nil, List.map_append, List.map_map]
  refine (srtP_self (W.arr.map swP)).symm.append ?_
  have e : V.arr.map (swP ∘ shI W.n) = (V.arr.map swP).map (shI W.n) := by rw [List.map_map]; rfl
  rw [e]
  exact ((srtP_self (V.arr.map swP)).map _).symm
theorem ex_gd {k : Nat} {W : Wb} (h : Gd W) (hk : k ≤ W.n) : Gd (exW k W) := by
  have hin : ∀ x ∈ names W.n, exN k W.n x ∈ names W.n := fun x hx => by
    have := mem_names.mp hx
    unfold exN
    split
    · exact mem_names.mpr ⟨by omega, by omega⟩
    · exact mem_names.mpr ⟨by omega, by omega⟩
  have inj : ∀ x ∈ names W.n, ∀ y ∈ names W.n, exN k W.n x = exN k W.n y → x = y := fun x hx y hy e => by
    have := mem_names.mp hx
    have := mem_names.mp hy
    unfold exN at e
    split at e <;> split at e <;> omega
  refine ⟨⟨by show (W.col.drop k ++ W.col.take k).length = W.n; rw [List.length_append, List.length_drop, List.length_take, h.lc]; omega, fun p hp => ?_⟩, (srtP_self _).nodup_iff.mpr (map_nd h.nd fun p hp q hq e => ?_)⟩
  · obtain ⟨q, hq, rfl⟩ := List.mem_map.mp (srtP_mem.mp hp)
    exact ⟨hin _ (h.ins q hq).1, hin _ (h.ins q hq).2⟩
  · injection e with e1 e2
    have i1 := inj _ (h.ins p hp).1 _ (h.ins q hq).1 e1
    have i2 := inj _ (h.ins p hp).2 _ (h.ins q hq).2 e2
    obtain ⟨a, b⟩ := p
    obtain ⟨c, d⟩ := q
    dsimp only at i1 i2
    rw [i1, i2]
theorem ah_exch (n m : Nat) : (((ahL n m).map swP).map (exP n (n + m))).Perm (ahL m n) := by
  refine (List.perm_ext_iff_of_nodup ?_ (ahL_nd m n)).mpr fun q => ?_
  · rw [List.map_map]
    refine map_nd (ahL_nd n m) fun p hp q hq e => ?_
    obtain ⟨a, b⟩ := p
    obtain ⟨c, d⟩ := q
    obtain ⟨h1, z, hz, rfl⟩ := mem_ahL.mp hp
    obtain ⟨h2, u, hu, rfl⟩ := mem_ahL.mp hq
    have e' : ((exN n (n + m) ((n : Int) + z), exN n (n + m) a) : Int × Int) = (exN n (n + m) ((n : Int) + u), exN n (n + m) c) := e
    rw [exN_r (mem_names.mp hz).1, exN_r (mem_names.mp hu).1, exN_l h1, exN_l h2] at e'
    injection e' with e1 e2
    rw [e1, show a = c by omega]
  · obtain ⟨x, y⟩ := q
    rw [List.map_map, List.mem_map, mem_ahL]
    constructor
    · rintro ⟨⟨a, b⟩, hp, e⟩
      obtain ⟨h1, z, hz, rfl⟩ := mem_ahL.mp hp
      have e' : ((exN n (n + m) ((n : Int) + z), exN n (n + m) a) : Int × Int) = (x, y) := e
      rw [exN_r (mem_names.mp hz).1, exN_l h1] at e'
      injection e' with e1 e2
      subst e1 e2
      exact ⟨hz, a, h1, rfl⟩
    · rintro ⟨hx, z, hz, rfl⟩
      refine ⟨(z, (n : Int) + x), mem_ahL.mpr ⟨hz, x, hx, rfl⟩, ?_⟩
      show ((exN n (n + m) ((n : Int) + x), exN n (n + m) z) : Int × Int) = (x, (m : Int) + z)
      rw [exN_r (mem_names.mp hx).1, exN_l hz]
theorem ex_ahead {W V : Wb} (hW : Gd W) (hV : Gd V) : exW W.n (trW (sumW true W V)) = sumW true (trW V) (trW W) := by
  refine wb_ext (Nat.add_comm _ _) ?_ ?_
  · show (W.col ++ V.col).drop W.n ++ (W.col ++ V.col).take W.n = V.col ++ W.col
    rw [← hW.lc, List.drop_left, List.take_left]
  · show srtP ((srtP ((srtP (sumA true W V)).map swP)).map (exP W.n (W.n + V.n))) = srtP (sumA true (trW V) (trW W))
    refine srtP_perm ((((srtP_self _).map _).trans (((srtP_self _).map _).map _)).trans ?_)
    unfold sumA
    simp only [if_true, List.map_append]
    have e1 : (W.arr.map swP).map (exP W.n (W.n + V.n)) = (W.arr.map swP).map (shI V.n) := List.map_congr_left fun q hq => by
      obtain ⟨p, hp, rfl⟩ := List.mem_map.mp hq
      exact exP_l ⟨(hW.ins p hp).2, (hW.ins p hp).1⟩
    have e2 : (((V.arr.map (shI W.n)).map swP).map (exP W.n (W.n + V.n))) = V.arr.map swP := by
      rw [List.map_map, List.map_map]
      refine List.map_congr_left fun q hq => ?_
      exact exP_r (q := swP q) ⟨(hV.ins q hq).2, (hV.ins q hq).1⟩
    rw [e1, e2]
    refine List.Perm.append ?_ (ah_exch W.n V.n)
    exact List.perm_append_comm.trans ((srtP_self (V.arr.map swP)).symm.append ((srtP_self (W.arr.map swP)).map _).symm)
/-! ### parted rows -/
theorem part_sides {n : Nat} {m : Nat} : ∀ (ss a b : List Int), (∀ s ∈ ss, s = 0 ∨ s = 1) → Fit ss a.length b.length → (∀ x ∈ a, x ∈ names n) → (∀ x ∈ b, x ∈ names m) →
    (mixS n ss a b).map (fun x => if (n : Int) ≤ x then (1 : Int) else 0) = ss ∧ (mixS n ss a b).filter (fun x => decide (x < (n : Int))) = a ∧ ((mixS n ss a b).filter fun x => decide ((n : Int) ≤ x)).map (fun x => x - (n : Int)) = b
  | [], a, b, _, f, _, _ => by
    have h1 : a = [] := List.eq_nil_of_length_eq_zero (by have := f.1; simpa using this.symm)
    have h2 : b = [] := List.eq_nil_of_length_eq_zero (by have := f.2; simpa using this.symm)
    subst h1 h2
    exact ⟨rfl, rfl, rfl⟩
  | s :: ss, a, b, h01, f, ha, hb => by
    rcases h01 s List.mem_cons_self with rfl | rfl
    · obtain ⟨k, hk, f'⟩ := f.zero rfl
      cases a with
      | nil => simp at hk
      | cons x a =>
        obtain ⟨i1, i2, i3⟩ := part_sides (n := n) (m := m) ss a b (fun s hs => h01 s (List.mem_cons_of_mem _ hs)) (by rw [show a.length = k by simpa using hk]; exact f') (fun z hz => ha z (List.mem_cons_of_mem _ hz)) hb
        have := mem_names.mp (ha x List.mem_cons_self)
        have em : mixS n (0 :: ss) (x :: a) b = x :: mixS n ss a b := rfl
        rw [em]
        refine ⟨?_, ?_, ?_⟩
        · rw [List.map_cons, i1, if_neg (by omega)]
        · rw [List.filter_cons, if_pos (decide_eq_true this.2), i2]
        · rw [List.filter_cons, if_neg (by simp; omega), i3]
    · obtain ⟨k, hk, f'⟩ := f.one (by decide)
      cases b with
      | nil => simp at hk
      | cons x b =>
        obtain ⟨i1, i2, i3⟩ := part_sides (n := n) (m := m) ss a b (fun s hs => h01 s (List.mem_cons_of_mem _ hs)) (by rw [show b.length = k by simpa using hk]; exact f') ha (fun z hz => hb z (List.mem_cons_of_mem _ hz))
        have := mem_names.mp (hb x List.mem_cons_self)
        have em : mixS n (1 :: ss) a (x :: b) = ((n : Int) + x) :: mixS n ss a b := rfl
        rw [em]
        refine ⟨?_, ?_, ?_⟩
        · rw [List.map_cons, i1, if_pos (by omega)]
        · rw [List.filter_cons, if_neg (by simp; omega), i2]
        · rw [List.filter_cons, if_pos (decide_eq_true (by omega)), List.map_cons, i3]
          congr 1; omega
/-! ### what may be shown -/
theorem bd_int2 {i : Int} (h0 : 0 ≤ i) (h1 : i < 100) : Bd 2 0 (.int i) := by
  refine ⟨?_, by simp [PyData.depth], ?_⟩
  · simp only [PyData.showable]
    have l : i.natAbs.log2 < 100 := by
      have := Nat.log2_le_self i.natAbs
      omega
    exact decide_eq_true (by omega)
  · have : ∀ k : Fin 100, (PyData.int (k.1 : Nat)).shown.length ≤ 2 := by decide +kernel
    have q := this ⟨i.toNat, by omega⟩
    have e : ((i.toNat : Nat) : Int) = i := by omega
    dsimp only at q
    rw [e] at q
    exact q
theorem bd_gd {W : Wb} (h : Gd W) (hn : W.n ≤ 20) (hc : ∀ c ∈ W.col, 0 ≤ c ∧ c < 10) : (wbD W).showable = true ∧ (wbD W).depth ≤ 63 ∧ (wbD W).shown.length ≤ 200000 := by
  have lc := h.lc
  have al := Nat.le_trans h.al (Nat.mul_le_mul hn hn)
  have b3 := bd_tup (m := 11) (d := 1) (xs := (W.arr.map pK).map NestedKey.data) fun x hx => by
    obtain ⟨k, hk, rfl⟩ := List.mem_map.mp hx
    obtain ⟨p, hp, rfl⟩ := List.mem_map.mp hk
    have e : (pK p).data = .tuple [.int p.1, .int p.2] := rfl
    rw [e]
    refine (bd_tup (m := 2) (d := 0) fun x hx => ?_).mono (by simp) (Nat.le_refl _)
    have i1 := mem_names.mp (h.ins p hp).1
    have i2 := mem_names.mp (h.ins p hp).2
    rcases List.mem_cons.mp hx with rfl | hx
    · exact bd_int2 i1.1 (by omega)
    · rw [List.mem_singleton.mp hx]
      exact bd_int2 i2.1 (by omega)
  rw [List.length_map, List.length_map] at b3
  have q := bd_three (m := 8803) (d := 2) ((bd_int2 (i := W.n) (by omega) (by omega)).mono (by omega) (by omega)) ((bd_ints hc).mono (by omega) (by omega)) (b3.mono (by omega) (Nat.le_refl _))
  exact ⟨q.sh, Nat.le_trans q.dp (by decide), Nat.le_trans q.ln (by decide)⟩
end G

set_option Elab.async false
set_option linter.all false
set_option maxRecDepth 100000
set_option maxHeartbeats 4000000
/- what is counted alike is kept, put beside each other: mathematics -/
namespace G
open PySem PySem.Spec PyProof.Rows
def Ek (r : Nat) (W V : Wb) : Prop := keptP W V r []
theorem ek_iff {r : Nat} {W V : Wb} : keptB W V r [] [] = true ↔ Ek r W V := kept_zip r [] [] rfl
theorem keptP_by {W V : Wb} (B : Int → Int → Prop) (t1 : ∀ x ∈ names W.n, ∃ y ∈ names V.n, B x y) (t2 : ∀ y ∈ names V.n, ∃ x ∈ names W.n, B x y) (s : ∀ x y, B x y → colAt W x = colAt V y ∧ ∀ x' y', B x' y' → (x = x' ↔ y = y') ∧ ((x, x') ∈ W.arr ↔ (y, y') ∈ V.arr)) : ∀ (r : Nat) (P : Ps), (∀ p ∈ P, B p.1 p.2) → keptP W V r P := by
  have sm : ∀ P : Ps, (∀ p ∈ P, B p.1 p.2) → sameP W V P := fun P h p hp => ⟨(s _ _ (h p hp)).1, fun q hq => (s _ _ (h p hp)).2 _ _ (h q hq)⟩
  have sn : ∀ (P : Ps) (x y : Int), (∀ p ∈ P, B p.1 p.2) → B x y → ∀ p ∈ P ++ [(x, y)], B p.1 p.2 := fun P x y h b p hp => by
    rcases List.mem_append.mp hp with q | q
    · exact h p q
    · rw [List.mem_singleton.mp q]; exact b
  intro r
  induction r with
  | zero => exact sm
  | succ r ih =>
    intro P h
    refine ⟨sm P h, fun x hx => ?_, fun y hy => ?_⟩
    · obtain ⟨y, hy, b⟩ := t1 x hx
      exact ⟨y, hy, ih _ (sn P x y h b)⟩
    · obtain ⟨x, hx, b⟩ := t2 y hy
      exact ⟨x, hx, ih _ (sn P x y h b)⟩
theorem ek_same {W V : Wb} (r : Nat) (hn : W.n = V.n) (hc : ∀ x ∈ names W.n, colAt W x = colAt V x) (ha : ∀ x y, (x, y) ∈ W.arr ↔ (x, y) ∈ V.arr) : Ek r W V :=
  keptP_by (fun x y => x ∈ names W.n ∧ x = y) (fun x hx => ⟨x, hn ▸ hx, hx, rfl⟩) (fun y hy => ⟨y, hn ▸ hy, hn ▸ hy, rfl⟩) (fun x y ⟨hx, e⟩ => by
    subst e
    refine ⟨hc x hx, fun x' y' ⟨_, e'⟩ => ?_⟩
    subst e'
    exact ⟨Iff.rfl, ha _ _⟩) r [] (fun p hp => nomatch hp)
theorem ek_refl (r : Nat) (W : Wb) : Ek r W W := ek_same r rfl (fun _ _ => rfl) fun _ _ => Iff.rfl
theorem ek_symm {r : Nat} {W V : Wb} (h : Ek r W V) : Ek r V W := by
  rw [← ek_iff] at h ⊢
  rw [← kept_swap]; exact h
theorem same_trans {W V U : Wb} {a b c : List Int} (h1 : a.length = b.length) (h2 : b.length = c.length) (h : sameB W a V b = true) (g : sameB V b U c = true) : sameB W a U c = true := by
  have h := sameB_iff.mp h
  have g := sameB_iff.mp g
  refine sameB_iff.mpr fun i hi => ⟨(h i hi).1.trans (g i (by omega)).1, fun j hj => ?_⟩
  obtain ⟨q1, q2⟩ := (h i hi).2 j hj
  obtain ⟨p1, p2⟩ := (g i (by omega)).2 j (by omega)
  exact ⟨q1.trans p1, q2.trans p2⟩
theorem kept_trans {W V U : Wb} : ∀ (r : Nat) (a b c : List Int), a.length = b.length → b.length = c.length → keptB W V r a b = true → keptB V U r b c = true → keptB W U r a c = true
  | 0, a, b, c, h1, h2, h, g => same_trans h1 h2 h g
  | r + 1, a, b, c, h1, h2, h, g => by
    obtain ⟨a1, a2, a3⟩ := kept_succ.mp h
    obtain ⟨b1, b2, b3⟩ := kept_succ.mp g
    refine kept_succ.mpr ⟨same_trans h1 h2 a1 b1, fun x hx => ?_, fun z hz => ?_⟩
    · obtain ⟨y, hy, q⟩ := a2 x hx
      obtain ⟨z, hz, q'⟩ := b2 y hy
      exact ⟨z, hz, kept_trans r _ _ _ (by simp [h1]) (by simp [h2]) q q'⟩
    · obtain ⟨y, hy, q⟩ := b3 z hz
      obtain ⟨x, hx, q'⟩ := a3 y hy
      exact ⟨x, hx, kept_trans r _ _ _ (by simp [h1]) (by simp [h2]) q' q⟩
theorem Ek.trans {r : Nat} {W V U : Wb} (h : Ek r W V) (g : Ek r V U) : Ek r W U := ek_iff.mp (kept_trans r [] [] [] rfl rfl (ek_iff.mpr h) (ek_iff.mpr g))
theorem ek_sum {r : Nat} {W V W' V' : Wb} (hW : Gd W) (hV : Gd V) (hW' : Gd W') (hV' : Gd V') (h : Ek r W W') (g : Ek r V V') : Ek r (sumW false W V) (sumW false W' V') :=
  kept_sum hW.toPt hV.toPt hW'.toPt hV'.toPt r [] [] [] (fun p hp => nomatch hp) (fun p hp => nomatch hp) (fun z => ⟨fun h => (nomatch h), fun h => by
    rcases h with h | ⟨q, hq, _⟩
    · cases h
    · cases hq⟩) h g
theorem ek_comm (r : Nat) {W V : Wb} (hW : Gd W) (hV : Gd V) : Ek r (sumW false W V) (sumW false V W) := by
  refine keptP_by (fun x y => (x ∈ names W.n ∧ y = (V.n : Int) + x) ∨ (∃ u ∈ names V.n, x = (W.n : Int) + u ∧ y = u)) (fun x hx => ?_) (fun y hy => ?_) (fun x y h => ?_) r [] (fun p hp => nomatch hp)
  · rcases names_sum.mp hx with h | ⟨u, hu, rfl⟩
    · exact ⟨(V.n : Int) + x, names_sum.mpr (.inr ⟨x, h, rfl⟩), .inl ⟨h, rfl⟩⟩
    · exact ⟨u, names_sum.mpr (.inl hu), .inr ⟨u, hu, rfl, rfl⟩⟩
  · rcases names_sum.mp hy with h | ⟨u, hu, rfl⟩
    · exact ⟨(W.n : Int) + y, names_sum.mpr (.inr ⟨y, h, rfl⟩), .inr ⟨y, h, rfl, rfl⟩⟩
    · exact ⟨u, names_sum.mpr (.inl hu), .inl ⟨hu, rfl⟩⟩
  · rcases h with ⟨hx, rfl⟩ | ⟨u, hu, rfl, rfl⟩
    · refine ⟨by rw [col_l hW.toPt hx, col_r hV.toPt hx], fun x' y' h' => ?_⟩
      rcases h' with ⟨hx', rfl⟩ | ⟨u', hu', rfl, rfl⟩
      · exact ⟨by omega, by rw [sum_ll hV.toPt hx hx', sum_rr hV.toPt hx hx']⟩
      · have a := mem_names.mp hx
        have b := mem_names.mp hu'
        refine ⟨by omega, ?_⟩
        rw [sum_lr hW.toPt hV.toPt hx hu']
        exact iff_of_false (by simp) (sum_rl hV.toPt hW.toPt hx hu')
    · refine ⟨by rw [col_r hW.toPt hu, col_l hV.toPt hu], fun x' y' h' => ?_⟩
      rcases h' with ⟨hx', rfl⟩ | ⟨u', hu', rfl, rfl⟩
      · have a := mem_names.mp hx'
        have b := mem_names.mp hu
        refine ⟨by omega, ?_⟩
        rw [sum_lr hV.toPt hW.toPt hu hx']
        exact iff_of_false (sum_rl hW.toPt hV.toPt hu hx') (by simp)
      · exact ⟨by omega, by rw [sum_rr hW.toPt hu hu', sum_ll hW.toPt hu hu']⟩
def zW : Wb := ⟨0, [], []⟩
theorem z_gd : Gd zW := ⟨⟨rfl, fun p hp => nomatch hp⟩, .nil⟩
theorem ek_zero (r : Nat) {W : Wb} (hW : Gd W) : Ek r (sumW false W zW) W := by
  refine ek_same r (Nat.add_zero _) (fun x hx => ?_) fun x y => ?_
  · have : x ∈ names W.n := hx
    exact col_l hW.toPt this
  · rw [mem_sum]
    constructor
    · rintro (h | ⟨u, v, h, _⟩ | ⟨h, _⟩)
      · exact h
      · cases h
      · cases h
    · exact .inl
def fW (L : List Wb) : Wb := L.foldr (sumW false) zW
theorem f_gd : ∀ {L : List Wb}, (∀ W ∈ L, Gd W) → Gd (fW L)
  | [], _ => z_gd
  | W :: L, h => sum_gd (h W List.mem_cons_self) (f_gd fun V hV => h V (List.mem_cons_of_mem _ hV))
def lsW (A : Wb) (L : List Wb) : Wb := L.foldl (sumW false) A
theorem s_gd : ∀ {L : List Wb} {A : Wb}, Gd A → (∀ W ∈ L, Gd W) → Gd (lsW A L)
  | [], _, hA, _ => hA
  | W :: L, A, hA, h => by
    show Gd (lsW (sumW false A W) L)
    exact s_gd (sum_gd hA (h W List.mem_cons_self)) fun V hV => h V (List.mem_cons_of_mem _ hV)
theorem s_f (r : Nat) : ∀ {L : List Wb} {A : Wb}, Gd A → (∀ W ∈ L, Gd W) → Ek r (lsW A L) (sumW false A (fW L))
  | [], A, hA, _ => ek_symm (ek_zero r hA)
  | X :: L, A, hA, h => by
    have hX := h X List.mem_cons_self
    have hL : ∀ V ∈ L, Gd V := fun V hV => h V (List.mem_cons_of_mem _ hV)
    have := s_f r (sum_gd (ah := false) hA hX) hL
    rw [sum_assoc hA hX (f_gd hL)] at this
    exact this
theorem f_perm (r : Nat) {L M : List Wb} (p : L.Perm M) : (∀ W ∈ L, Gd W) → Ek r (fW L) (fW M) := by
  induction p with
  | nil => exact fun _ => ek_refl r _
  | cons x p ih => exact fun h => ek_sum (h x List.mem_cons_self) (f_gd fun V hV => h V (List.mem_cons_of_mem _ hV)) (h x List.mem_cons_self) (f_gd fun V hV => h V (List.mem_cons_of_mem _ (p.mem_iff.mpr hV))) (ek_refl r _) (ih fun V hV => h V (List.mem_cons_of_mem _ hV))
  | swap x y l =>
    intro h
    have hy := h y List.mem_cons_self
    have hx := h x (List.mem_cons_of_mem _ List.mem_cons_self)
    have hl : Gd (fW l) := f_gd fun V hV => h V (List.mem_cons_of_mem _ (List.mem_cons_of_mem _ hV))
    show Ek r (sumW false y (sumW false x (fW l))) (sumW false x (sumW false y (fW l)))
    rw [← sum_assoc hy hx hl, ← sum_assoc hx hy hl]
    exact ek_sum (sum_gd hy hx) hl (sum_gd hx hy) hl (ek_comm r hy hx) (ek_refl r _)
  | trans p q ih1 ih2 => exact fun h => (ih1 h).trans (ih2 fun V hV => h V (p.mem_iff.mpr hV))
theorem f_append (r : Nat) {M : List Wb} (hM : ∀ W ∈ M, Gd W) : ∀ {L : List Wb}, (∀ W ∈ L, Gd W) → Ek r (fW (L ++ M)) (sumW false (fW L) (fW M))
  | [], _ => ek_symm ((ek_comm r z_gd (f_gd hM)).trans (ek_zero r (f_gd hM)))
  | X :: L, h => by
    have hX := h X List.mem_cons_self
    have hL : ∀ V ∈ L, Gd V := fun V hV => h V (List.mem_cons_of_mem _ hV)
    show Ek r (sumW false X (fW (L ++ M))) (sumW false (sumW false X (fW L)) (fW M))
    rw [sum_assoc hX (f_gd hL) (f_gd hM)]
    exact ek_sum hX (f_gd fun V hV => (List.mem_append.mp hV).elim (hL V) (hM V)) hX (sum_gd (f_gd hL) (f_gd hM)) (ek_refl r _) (f_append r hM hL)
theorem tW_gd {W : Wb} (h : Gd W) : ∀ k : Nat, Gd (tW W k)
  | 0 => h
  | k + 1 => sum_gd (tW_gd h k) h
theorem f_times {r : Nat} {W : Wb} (hW : Gd W) : ∀ {L : List Wb} {U : Wb}, (∀ V ∈ U :: L, Gd V) → (∀ V ∈ U :: L, Ek r W V) → Ek r (fW (U :: L)) (tW W L.length)
  | [], U, h, e => (ek_zero r (h U List.mem_cons_self)).trans (ek_symm (e U List.mem_cons_self))
  | X :: L, U, h, e => by
    have hU := h U List.mem_cons_self
    have hL : ∀ V ∈ X :: L, Gd V := fun V hV => h V (List.mem_cons_of_mem _ hV)
    have ih := f_times hW hL fun V hV => e V (List.mem_cons_of_mem _ hV)
    show Ek r (sumW false U (fW (X :: L))) (sumW false (tW W L.length) W)
    exact (ek_comm r hU (f_gd hL)).trans (ek_sum (f_gd hL) hU (tW_gd hW _) hW ih (ek_symm (e U List.mem_cons_self)))
def sameT (r : Nat) (W V : Wb) : Bool := keptB W V r [] []
/-- as many of each type, or at least r in both -/
def Alk (r : Nat) (L M : List Wb) : Prop := ∀ W ∈ L ++ M, (L.filter (sameT r W)).length = (M.filter (sameT r W)).length ∨ (r ≤ (L.filter (sameT r W)).length ∧ r ≤ (M.filter (sameT r W)).length)
theorem filter_other {r : Nat} {W U : Wb} (h : sameT r W U = false) (L : List Wb) : (L.filter fun V => !sameT r W V).filter (sameT r U) = L.filter (sameT r U) := by
  rw [List.filter_filter]
  refine List.filter_congr fun V _ => ?_
  cases e : sameT r U V with
  | false => rfl
  | true =>
    cases f : sameT r W V with
    | false => rfl
    | true =>
      have : sameT r W U = true := ek_iff.mpr ((ek_iff.mp f).trans (ek_symm (ek_iff.mp e)))
      rw [h] at this; cases this
theorem alk_kept (r : Nat) : ∀ (n : Nat) (L M : List Wb), L.length + M.length ≤ n → (∀ W ∈ L, Gd W) → (∀ W ∈ M, Gd W) → Alk r L M → Ek r (fW L) (fW M)
  | 0, L, M, hn, _, _, _ => by
    obtain rfl : L = [] := List.eq_nil_of_length_eq_zero (by omega)
    obtain rfl : M = [] := List.eq_nil_of_length_eq_zero (by omega)
    exact ek_refl r _
  | n + 1, L, M, hn, hL, hM, h => by
    by_cases r0 : r = 0
    · subst r0
      exact fun p hp => nomatch hp
    by_cases em : L ++ M = []
    · obtain ⟨rfl, rfl⟩ := List.append_eq_nil_iff.mp em
      exact ek_refl r _
    obtain ⟨W, hW⟩ := List.exists_mem_of_ne_nil _ em
    have gW : Gd W := (List.mem_append.mp hW).elim (hL W) (hM W)
    have wW : sameT r W W = true := ek_iff.mpr (ek_refl r W)
    have hc := h W hW
    have pos : 1 ≤ (L.filter (sameT r W)).length ∧ 1 ≤ (M.filter (sameT r W)).length := by
      have : 1 ≤ (L.filter (sameT r W)).length ∨ 1 ≤ (M.filter (sameT r W)).length := (List.mem_append.mp hW).elim (fun q => .inl (List.length_pos_of_mem (List.mem_filter.mpr ⟨q, wW⟩))) (fun q => .inr (List.length_pos_of_mem (List.mem_filter.mpr ⟨q, wW⟩)))
      omega
    have sub : ∀ {L : List Wb} (p : Wb → Bool), (∀ W ∈ L, Gd W) → ∀ W ∈ L.filter p, Gd W := fun p hL W hW => hL W (List.mem_filter.mp hW).1
    have part : ∀ L : List Wb, (∀ W ∈ L, Gd W) → Ek r (fW L) (sumW false (fW (L.filter (sameT r W))) (fW (L.filter fun V => !sameT r W V))) := fun L hL =>
      (f_perm r (List.filter_append_perm (sameT r W) L).symm hL).trans (f_append r (sub _ hL) (sub _ hL))
    have times : ∀ L : List Wb, (∀ W ∈ L, Gd W) → 1 ≤ (L.filter (sameT r W)).length → Ek r (fW (L.filter (sameT r W))) (tW W ((L.filter (sameT r W)).length - 1)) := fun L hL l1 => by
      have g := sub (sameT r W) hL
      have e : ∀ V ∈ L.filter (sameT r W), Ek r W V := fun V hV => ek_iff.mp (List.mem_filter.mp hV).2
      generalize L.filter (sameT r W) = K at g e l1
      cases K with
      | nil => simp at l1
      | cons U K => exact f_times gW g e
    have le : ∀ L : List Wb, (L.filter (sameT r W)).length + (L.filter fun V => !sameT r W V).length = L.length := fun L => by
      rw [← List.length_append]
      exact (List.filter_append_perm (sameT r W) L).length_eq
    have l1 := le L
    have l2 := le M
    have mid : Ek r (tW W ((L.filter (sameT r W)).length - 1)) (tW W ((M.filter (sameT r W)).length - 1)) := by
      rcases hc with e | ⟨a, b⟩
      · rw [e]; exact ek_refl r _
      · exact kept_copies gW.toPt r [] [] ⟨fun _ z => (nomatch z), fun _ z => (nomatch z)⟩ (fun _ z => (nomatch z)) (by simp only [List.length_nil]; omega) (by simp only [List.length_nil]; omega)
    have rest : Ek r (fW (L.filter fun V => !sameT r W V)) (fW (M.filter fun V => !sameT r W V)) := by
      refine alk_kept r n _ _ (by omega) (sub _ hL) (sub _ hM) fun U hU => ?_
      have hU' : U ∈ L ++ M ∧ sameT r W U = false := by
        rcases List.mem_append.mp hU with q | q
        · have := List.mem_filter.mp q
          exact ⟨List.mem_append_left _ this.1, by simpa using this.2⟩
        · have := List.mem_filter.mp q
          exact ⟨List.mem_append_right _ this.1, by simpa using this.2⟩
      rw [filter_other hU'.2, filter_other hU'.2]
      exact h U hU'.1
    have gt := tW_gd gW
    refine (part L hL).trans (Ek.trans (ek_sum (f_gd (sub _ hL)) (f_gd (sub _ hL)) (f_gd (sub _ hM)) (f_gd (sub _ hM)) ?_ rest) (ek_symm (part M hM)))
    exact (times L hL pos.1).trans (mid.trans (ek_symm (times M hM pos.2)))
/-- of sums as they are laid -/
theorem alk_sums {r : Nat} {A B : Wb} {L M : List Wb} (hL : ∀ W ∈ A :: L, Gd W) (hM : ∀ W ∈ B :: M, Gd W) (h : Alk r (A :: L) (B :: M)) : keptB (lsW A L) (lsW B M) r [] [] = true :=
  ek_iff.mpr ((s_f r (hL A List.mem_cons_self) fun V hV => hL V (List.mem_cons_of_mem _ hV)).trans ((alk_kept r _ (A :: L) (B :: M) (Nat.le_refl _) hL hM h).trans (ek_symm (s_f r (hM B List.mem_cons_self) fun V hV => hM V (List.mem_cons_of_mem _ hV)))))
end G

set_option Elab.async false
set_option linter.all false
set_option maxRecDepth 100000
set_option maxHeartbeats 4000000
/- dicts as data -/
namespace G
open PySem L2 PySem.Spec PyProof.Rows
/-! ### what is found in a dict -/
def lkD (s : List (Key × PyData)) (k : Key) : Option PyData := (s.find? fun p => decide (p.1 = k)).map (·.2)
theorem lkD_val {K : PySem.W.Frag} {B : Hp} {k : Key} : ∀ {r : List (Key × V)} {s : List (Key × PyData)}, KvAll K B r s → (lkD s k = none → valV r k = none) ∧ ∀ d, lkD s k = some d → ∃ v, valV r k = some v ∧ Dp K B v d
  | _, _, .nil => ⟨fun _ => rfl, fun _ h => by cases h⟩
  | _, _, .cons (k := k') (v := v) (d := d') h t => by
    have ih := lkD_val (k := k) t
    unfold lkD valV at ih ⊢
    rw [List.find?_cons, List.find?_cons]
    by_cases e : k' = k
    · rw [decide_eq_true e]
      exact ⟨(fun h => nomatch h), fun d hd => ⟨v, rfl, by cases hd; exact h⟩⟩
    · rw [decide_eq_false e]
      exact ih
theorem lkD_some {K : PySem.W.Frag} {B : Hp} {k : Key} {r : List (Key × V)} {s : List (Key × PyData)} (t : KvAll K B r s) : (valV r k).isSome = (lkD s k).isSome := by
  cases e : lkD s k with
  | none => rw [(lkD_val t).1 e]; rfl
  | some d =>
    obtain ⟨v, h, _⟩ := (lkD_val t).2 d e
    rw [h]; rfl
theorem lkD_put {s : List (Key × PyData)} {k k' : Key} {d : PyData} : lkD (putD s k d) k' = if k = k' then some d else lkD s k' := by
  have find_map : ∀ s : List (Key × PyData), ((s.map fun kv => if kv.1 = k then (kv.1, d) else kv).find? fun p => decide (p.1 = k')).map (·.2) = if k = k' then (if (s.any fun kv => decide (kv.1 = k)) = true then some d else none) else (s.find? fun p => decide (p.1 = k')).map (·.2) := by
    intro s
    induction s with
    | nil => simp
    | cons p s ih =>
      rw [List.map_cons, List.find?_cons, List.find?_cons, List.any_cons]
      by_cases e : p.1 = k
      · rw [if_pos e]
        by_cases e2 : k = k'
        · simp [e, e2]
        · have e3 : decide (p.1 = k') = false := decide_eq_false (by rw [e]; exact e2)
          simp only [e3]
          rw [ih, if_neg e2, if_neg e2]
      · rw [if_neg e]
        by_cases e2 : k = k'
        · have e3 : decide (p.1 = k') = false := decide_eq_false (by rw [← e2]; exact e)
          simp only [e3]
          rw [ih, if_pos e2, if_pos e2]
          rw [decide_eq_false e, Bool.false_or]
        · by_cases e4 : p.1 = k'
          · simp [e4, e2]
          · have e3 : decide (p.1 = k') = false := decide_eq_false e4
            simp only [e3]
            rw [ih, if_neg e2, if_neg e2]
  unfold lkD putD
  by_cases an : (s.any fun kv => decide (kv.1 = k)) = true
  · rw [if_pos an, find_map, if_pos an]
  · rw [if_neg an, List.find?_append]
    by_cases e : k = k'
    · subst e
      have : (s.find? fun p => decide (p.1 = k)) = none := by
        rw [List.find?_eq_none]
        intro x hx hd
        exact an (List.any_eq_true.mpr ⟨x, hx, hd⟩)
      rw [this, if_pos rfl]; simp
    · rw [if_neg e, List.find?_cons, decide_eq_false e]; simp
theorem dp_key {K : PySem.W.Frag} {B : Hp} {v : V} {k : Key} (h : Dp K B v (keyD k)) : v = kV k := by
  cases k with
  | inl i => cases h; rfl
  | inr t => cases h; rfl
theorem key_dp {K : PySem.W.Frag} {B : Hp} (k : Key) : Dp K B (kV k) (keyD k) := by
  cases k with
  | inl i => exact .int i
  | inr t => exact .str t
theorem KvAll.of {K : PySem.W.Frag} {B : Hp} : ∀ {r : List (Key × V)} {s : List (Key × PyData)}, r.map (·.1) = s.map (·.1) → DpAll K B (r.map (·.2)) (s.map (·.2)) → KvAll K B r s
  | [], [], _, _ => .nil
  | [], _ :: _, e, _ => nomatch e
  | _ :: _, [], e, _ => nomatch e
  | (k, v) :: r, (k', d) :: s, e, h => by
    injection e with e1 e2
    obtain rfl : k = k' := e1
    cases h with
    | cons h t => exact .cons h (KvAll.of e2 t)
theorem KvAll.dp {K : PySem.W.Frag} {B : Hp} {p : Addr} {o : Obj} {r : List (Key × V)} {s : List (Key × PyData)} (h : B p = some (.frz o (.dK r))) (t : KvAll K B r s) : Dp K B (.ref p) (dctD s) := .dct h t.at.2 t.at.1
theorem keyD_inj {a b : Key} (h : keyD a = keyD b) : a = b := by
  cases a <;> cases b <;> cases h <;> rfl
theorem dct_inj {s t : List (Key × PyData)} (h : (s.map fun kv => (keyD kv.1, kv.2)) = t.map fun kv => (keyD kv.1, kv.2)) : s = t := by
  induction s generalizing t with
  | nil => cases t with | nil => rfl | cons _ _ => cases h
  | cons p s ih =>
    cases t with
    | nil => cases h
    | cons q t =>
      rw [List.map_cons, List.map_cons] at h
      injection h with h1 h2
      injection h1 with h3 h4
      obtain ⟨a, b⟩ := p
      obtain ⟨c, d⟩ := q
      rw [ih h2, show a = c from keyD_inj h3, show b = d from h4]
/-! ### what reads as a dict -/
inductive RD (ρ : Env') : R → List (Key × PyData) → Prop
  | o {i : Nat} {s : List (Key × PyData)} : ρ[i]? = some (.o (.dk s)) → RD ρ (.o i) s
  | d {s : List (Key × PyData)} : RD ρ (.d (dctD s)) s
theorem RD.at {K : PySem.W.Frag} {F : Hp} {Z : Addr → Prop} {B H : Hp} {σ : L2.St} {v : V} {ρ : Env'} {r : R} {s : List (Key × PyData)} (h : RD ρ r s) (k : Ok K F Z B H σ ρ) (w : VR K B σ v r) : ∃ p rr, v = .ref p ∧ Rd H p (.dK rr) ∧ KvAll K B rr s := by
  cases h with
  | d =>
    have w' : Dp K B v (dctD s) := w
    unfold dctD at w'
    generalize hm : (s.map fun kv => (keyD kv.1, kv.2)) = m at w'
    cases w' with
    | @dct p rr s' o h hk t =>
      obtain rfl := dct_inj hm
      exact ⟨p, rr, rfl, .inr ⟨o, k.exB _ _ h⟩, KvAll.of hk t⟩
  | o hs =>
    obtain ⟨v', as, h1, h2, _⟩ := k.ob (gS_some hs)
    have w' : gV σ _ = some v := w
    rw [w'] at h1
    cases h1
    cases h2 with
    | dk h t => exact ⟨_, _, rfl, .inl h, t⟩
theorem rd_get {H : Hp} {p : Addr} {r : List (Key × V)} {k : Key} (h : Rd H p (.dK r)) : DGet H p (kV k) (valV r k) := .inl ⟨r, k, h, rfl, rfl⟩
section
variable {X : Cx} {ρ ρ' ρ1 ρ2 ρ3 : Env'} {a b c e tg iter : Expr} {es : List Expr} {pos p apos : Pos} {xs ys : List PyData} {s : List (Key × PyData)} {r : R} {k : Key} {d z : PyData} {sts : List Stmt} {o : O} {i : Nat}
theorem di_is (h : xs = ys) (q : DI X ρ tg iter xs ρ1) : DI X ρ tg iter ys ρ1 := h ▸ q
/-- d[k] -/
theorem de_dix (hu : X.A.units + 100 < cLine) (hq : RD ρ2 r s) (hl : lkD s k = some d) (ho : DE X ρ a r ρ1) (he : DE X ρ1 b (.d (keyD k)) ρ2) (hnl : NoSl b := by intro _ _; rfl) : DE X ρ (.Subscript a b pos) (.d d) ρ2 := fun F Z B H σ Q kk q =>
  ⟨_, pe_dget (by omega) pe_s pe_s hnl, ho F Z B H σ _ kk fun v1 B1 H1 k1 x1 w1 => he F Z B1 H1 σ _ k1 fun v2 B2 H2 k2 x2 w2 => by
    obtain ⟨p, rr, rfl, h, t⟩ := hq.at k2 (w1.mono x2)
    obtain rfl := dp_key (show Dp X.K B2 v2 (keyD k) from w2)
    obtain ⟨v, hv, hd⟩ := (lkD_val t).2 d hl
    have g := rd_get (k := k) h
    rw [hv] at g
    exact ⟨p, v, rfl, g, q v B2 H2 k2 (x1.trans x2) hd⟩⟩
/-- d.get(k, z) -/
theorem de_dget2 (hu : X.A.units + 100 < cLine) (hq0 : RD ρ1 r s) (hq : RD ρ3 r s) (ho : DE X ρ a r ρ1) (he : DE X ρ1 b (.d (keyD k)) ρ2) (hf : DE X ρ2 c (.d z) ρ3) (m : M2 X a "get" apos b c pos := by exact ⟨rfl, rfl, rfl, rfl⟩) :
    DE X ρ (.Call (.Attribute a "get" apos) [b, c] [] pos) (.d ((lkD s k).getD z)) ρ3 := fun F Z B H σ Q kk q =>
  ⟨_, pe_dget2 (by omega) pe_s pe_s pe_s m, ho F Z B H σ _ kk fun v1 B1 H1 k1 x1 w1 => by
    obtain ⟨p, rr, rfl, h, t⟩ := hq0.at k1 w1
    refine ⟨p, rfl, .inl ⟨rr, h⟩, he F Z B1 H1 σ _ k1 fun v2 B2 H2 k2 x2 w2 => hf F Z B2 H2 σ _ k2 fun v3 B3 H3 k3 x3 w3 => ?_⟩
    obtain ⟨p', rr', e, h', t'⟩ := hq.at k3 ((w1.mono x2).mono x3)
    cases e
    obtain rfl := dp_key (show Dp X.K B2 v2 (keyD k) from w2)
    have g := rd_get (k := k) h'
    refine ⟨_, g, ?_⟩
    cases hl : lkD s k with
    | none =>
      rw [(lkD_val t').1 hl]
      exact q v3 B3 H3 k3 ((x1.trans x2).trans x3) (by rw [hl]; exact w3)
    | some d =>
      obtain ⟨v, hv, hd⟩ := (lkD_val t').2 d hl
      rw [hv]
      exact q v B3 H3 k3 ((x1.trans x2).trans x3) (by rw [hl]; exact hd)⟩
/-- d.get(k) -/
theorem de_dget1 (hu : X.A.units + 100 < cLine) (hq0 : RD ρ1 r s) (hq : RD ρ2 r s) (ho : DE X ρ a r ρ1) (he : DE X ρ1 b (.d (keyD k)) ρ2) (m : M1 X a "get" apos b pos := by exact ⟨rfl, rfl, rfl, rfl⟩) :
    DE X ρ (.Call (.Attribute a "get" apos) [b] [] pos) (.d ((lkD s k).getD .none)) ρ2 := fun F Z B H σ Q kk q =>
  ⟨_, pe_dget1 (by omega) pe_s pe_s m, ho F Z B H σ _ kk fun v1 B1 H1 k1 x1 w1 => by
    obtain ⟨p, rr, rfl, h, t⟩ := hq0.at k1 w1
    refine ⟨p, rfl, .inl ⟨rr, h⟩, he F Z B1 H1 σ _ k1 fun v2 B2 H2 k2 x2 w2 => ?_⟩
    obtain ⟨p', rr', e, h', t'⟩ := hq.at k2 (w1.mono x2)
    cases e
    obtain rfl := dp_key (show Dp X.K B2 v2 (keyD k) from w2)
    have g := rd_get (k := k) h'
    refine ⟨_, g, ?_⟩
    cases hl : lkD s k with
    | none =>
      rw [(lkD_val t').1 hl]
      exact q .non B2 H2 k2 (x1.trans x2) (by rw [hl]; exact .non)
    | some d =>
      obtain ⟨v, hv, hd⟩ := (lkD_val t').2 d hl
      rw [hv]
      exact q v B2 H2 k2 (x1.trans x2) (by rw [hl]; exact hd)⟩
/-- k in d, k not in d -/
theorem dt_din (hu : X.A.units + 100 < cLine) (hq : RD ρ2 r s) (ha : DE X ρ a (.d (keyD k)) ρ1) (hb : DE X ρ1 b r ρ2) (hm : behindInMarks .In b = false := by rfl) : DT X ρ (.Compare a [.In] [b] pos) (lkD s k).isSome ρ2 := fun F Z B H σ Q kk q =>
  ⟨_, pt_cmp (pc_din (by omega) pe_s pe_s) hm, ha F Z B H σ _ kk fun v1 B1 H1 k1 x1 w1 => hb F Z B1 H1 σ _ k1 fun v2 B2 H2 k2 x2 w2 => by
    obtain ⟨p, rr, rfl, h, t⟩ := hq.at k2 w2
    obtain rfl := dp_key (show Dp X.K B1 v1 (keyD k) from w1)
    exact ⟨p, _, rfl, rd_get h, _, rfl, by rw [lkD_some t]; exact q B2 H2 k2 (x1.trans x2)⟩⟩
theorem dt_dnotin (hu : X.A.units + 100 < cLine) (hq : RD ρ2 r s) (ha : DE X ρ a (.d (keyD k)) ρ1) (hb : DE X ρ1 b r ρ2) (hm : behindInMarks .NotIn b = false := by rfl) : DT X ρ (.Compare a [.NotIn] [b] pos) (!(lkD s k).isSome) ρ2 := fun F Z B H σ Q kk q =>
  ⟨_, pt_cmp (pc_dnotin (by omega) pe_s pe_s) hm, ha F Z B H σ _ kk fun v1 B1 H1 k1 x1 w1 => hb F Z B1 H1 σ _ k1 fun v2 B2 H2 k2 x2 w2 => by
    obtain ⟨p, rr, rfl, h, t⟩ := hq.at k2 w2
    obtain rfl := dp_key (show Dp X.K B1 v1 (keyD k) from w1)
    exact ⟨p, _, rfl, rd_get h, _, rfl, by rw [lkD_some t]; exact q B2 H2 k2 (x1.trans x2)⟩⟩
/-- dict(d), a copy -/
theorem df_dcopy (hq : RD ρ1 r s) (hm : X.mg "dict" = none) (h : DE X ρ e r ρ1) (hg : Gl X "dict" := by rfl) (he : starEach [e] X.env = (false, eval e X.env) :: starEach [] X.env := by rfl) (hpl : (backTo pos (starEach [] X.env)).any (·.1) = false := by rfl) :
    DF X ρ (.Call (.Name "dict" p) [e] [] pos) (.dk s) ρ1 := fun F Z B H σ Q kk q =>
  ⟨_, pe_callTy call_dictD hg hm PyProof.Rows.boot_dict (pa_cons pe_s pa_nil he) (by decide) (by decide) he hpl, h F Z B H σ _ kk fun v B1 H1 k1 x1 w1 => by
    obtain ⟨a, rr, rfl, hh, t⟩ := hq.at k1 w1
    refine ⟨a, rr, rfl, hh, fun l hl => ?_⟩
    exact q l B1 _ (k1.loose hl _) x1 (k1.laid hl _) (.dk upd_same t)⟩
/-- list(d) -/
theorem dl_dlist (hc : X.calm = true) (hq : RD ρ1 r s) (hm : X.mg "list" = none) (h : DE X ρ e r ρ1) (hg : Gl X "list" := by rfl) (he : starEach [e] X.env = (false, eval e X.env) :: starEach [] X.env := by rfl) (hpl : (backTo pos (starEach [] X.env)).any (·.1) = false := by rfl) :
    DL X ρ (.Call (.Name "list" p) [e] [] pos) (s.map fun kv => keyD kv.1) ρ1 := fun F Z B H σ Q kk q =>
  ⟨_, pe_callTy (call_listD hc) hg hm PyProof.Rows.boot_list (pa_cons pe_s pa_nil he) (by decide) (by decide) he hpl, h F Z B H σ _ kk fun v B1 H1 k1 x1 w1 => by
    obtain ⟨a, rr, rfl, hh, t⟩ := hq.at k1 w1
    refine ⟨a, rr, rfl, hh, fun l hl => ?_⟩
    have ks : ∀ {rr : List (Key × V)} {s : List (Key × PyData)}, KvAll X.K B1 rr s → DpAll X.K B1 (rr.map fun kv => kV kv.1) (s.map fun kv => keyD kv.1) := by
      intro rr s t
      induction t with
      | nil => exact .nil
      | cons _ _ ih => exact .cons (key_dp _) ih
    exact q l _ B1 _ (k1.loose hl _) x1 (k1.laid hl _) upd_same (ks t)⟩
/-- d[k] = v, d of our own -/
theorem ds_dput {kvs : List (Key × PyData)} {y : PyData} {pos' : Pos} (hu : X.A.units + 100 < cLine) (hz : kvs.length < 1000000) (hv : DE X ρ e (.d y) ρ1) (ho : DE X ρ1 a (.o i) ρ2) (hk : DE X ρ2 b (.d (keyD k)) ρ3)
    (hs3 : ρ3[i]? = some (.o (.dk kvs)) := by rfl) (hs : swapsWith e (some (.Subscript a b pos')) pos.line X.env = pure false := by rfl) : DS X ρ (.Assign [.Subscript a b pos'] e pos) (.nx (ρ3.set i (.o (.dk (putD kvs k y))))) := fun F Z B H σ D kk q =>
  ⟨_, ps_dput (by omega) pe_s pe_s pe_s hs, hv F Z B H σ _ kk fun v B1 H1 k1 x1 w1 => ho F Z B1 H1 σ _ k1 fun o B2 H2 k2 x2 w2 => hk F Z B2 H2 σ _ k2 fun iv B3 H3 k3 x3 w3 => by
    obtain ⟨v', as, g1, g2, g3⟩ := k3.ob (gS_some hs3)
    have w' : gV σ i = some o := w2
    rw [w'] at g1
    cases g1
    have d0 := g2
    have dv : Dp X.K B1 v y := w1
    obtain rfl := dp_key (show Dp X.K B3 iv (keyD k) from w3)
    cases g2 with
    | @dk aa r _ h t =>
    refine ⟨aa, _, rfl, DPut.k (k := k) h (by rw [t.length]; exact Nat.lt_of_lt_of_le hz (by decide)), ?_⟩
    exact q B3 _ σ (k3.turn (gS_some hs3) w' d0 (.dk upd_same (t.put (dp_mono (x2.trans x3) dv))) fun c hc => by
      rw [upd_ne fun z => hc (by rw [z]; exact List.mem_singleton.mpr rfl)]) ((x1.trans x2).trans x3)⟩
/-! ### dicts laid still -/
def tFrz (t : TE) : TE := fun σ H Q => t σ H fun v H1 => ∃ d u, v = .ref d ∧ H1 d = some u ∧ Mut (some u) ∧ ∀ od, Q v (upd H1 d (.frz od u))
theorem pe_frz {t : TE} (h : PE X e t) : PE X e (tFrz t) := by
  refine ⟨fun pins s σ H Q I hw => ?_⟩
  refine thn (h.run pins s σ _ _ I hw) fun v s1 ⟨x, H1, I2, rx, d, u, ex, hd, mu, q⟩ => ?_
  obtain ⟨od, I3⟩ := I2.lock hd mu
  exact ⟨x, _, I3, rx, q od⟩
def tFrzB (t : TS) : TS := fun D σ H => ∃ d u, H d = some u ∧ Mut (some u) ∧ ∀ od, t D σ (upd H d (.frz od u))
theorem pss_frz {t : TS} (h : PSs X sts t) : PSs X sts (tFrzB t) := by
  refine ⟨fun pins s σ H D I hw => ?_⟩
  obtain ⟨d, u, hd, mu, hw⟩ := hw
  obtain ⟨od, I1⟩ := I.lock hd mu
  exact h.run pins s σ _ _ I1 (hw od)
/-- a new dict, as data -/
theorem DF.de (h : DF X ρ e (.dk s) ρ1) : DE X ρ e (.d (dctD s)) ρ1 := fun F Z B H σ Q k q =>
  ⟨_, pe_frz pe_s, h F Z B H σ _ k fun p B' H' k' x n ob => by
    cases ob with
    | @dk _ r _ hp t =>
    refine ⟨p, _, rfl, hp, trivial, fun od => ?_⟩
    have k2 := k'.poke (o := .frz od (.dK r)) n
    have n2 := n.poke (o := .frz od (.dK r)) k'
    have xb := Sub.new (.frz od (.dK r)) n2.b
    exact q _ _ _ (k2.adopt n2 upd_same) (x.trans xb) (KvAll.dp upd_same (t.mono xb))⟩
theorem Ok.frz {K : PySem.W.Frag} {F : Hp} {Z : Addr → Prop} {B H : Hp} {σ : L2.St} (k : Ok K F Z B H σ ρ) (hs : gS ρ i = .o (.dk s)) :
    ∃ a r, H a = some (.dK r) ∧ ∀ od, ∃ B', Sub B B' ∧ Ok K F Z B' (upd H a (.frz od (.dK r))) σ (ρ.set i (.d (dctD s))) := by
  obtain ⟨v, as, g1, g2, g3⟩ := k.ob hs
  cases g2 with
  | @dk a r _ h t =>
  obtain ⟨f1, f2, f3⟩ := g3 a List.mem_cons_self
  have n : New K F Z B H σ (ρ.set i .un) a := by
    refine ⟨f1, f2, f3, fun j b v as q1 q2 q3 m => ?_⟩
    rw [gS_set] at q1
    split at q1
    · cases q1
    · rename_i hne
      obtain ⟨own, o1, o2, o3⟩ := k.own
      have e1 := o3 j
      rw [q1, q2] at e1
      have e2 := o3 i
      rw [hs, g1] at e2
      generalize hoj : own j = oj at e1
      generalize hoi : own i = oi at e2
      cases e1 with
      | o e1 =>
        cases e2 with
        | o e2 =>
          have z1 : oj = as := ObAt.uni e1 q3 fun _ _ => rfl
          have z2 : a ∈ oi := by cases e2; exact List.mem_cons_self
          have ji : j = i := o2 j i a (by rw [hoj, z1]; exact m) (by rw [hoi]; exact z2)
          have hl : i < ρ.length := by
            rcases Nat.lt_or_ge i ρ.length with z | z
            · exact z
            · unfold gS at hs
              rw [List.getElem?_eq_none z] at hs
              cases hs
          exact hne ⟨ji, hl⟩
  have same : σ.set i (some (.ref a)) = σ := by
    apply List.ext_getElem?
    intro m
    by_cases em : m = i
    · subst em
      by_cases hl : m < σ.length
      · rw [List.getElem?_set_self hl, gV_some g1]
      · have := List.getElem?_eq_none (Nat.le_of_not_lt hl)
        rw [gV_some g1] at this
        cases this
    · rw [List.getElem?_set_ne (Ne.symm em)]
  have ku : Ok K F Z B H σ (ρ.set i .un) := by
    have q := k.setN (i := i) (a := some (.ref a))
    rw [same] at q
    exact q
  refine ⟨a, r, h, fun od => ?_⟩
  have k2 := ku.poke (o := .frz od (.dK r)) n
  have n2 := n.poke (o := .frz od (.dK r)) ku
  have xb := Sub.new (.frz od (.dK r)) n2.b
  have k3 := k2.adopt n2 upd_same
  have k4 := k3.setD (i := i) (v := .ref a) (x := dctD s) (KvAll.dp upd_same (t.mono xb))
  rw [same, List.set_set] at k4
  exact ⟨_, xb, k4⟩
theorem db_frz {i : Nat} (t : DB X (ρ.set i (.d (dctD s))) sts o) (hs : ρ[i]? = some (.o (.dk s)) := by rfl) : DB X ρ sts o := fun F Z B H σ D k q => by
  obtain ⟨a, r, h, hh⟩ := k.frz (gS_some hs)
  refine ⟨_, pss_frz pb_s, a, _, h, trivial, fun od => ?_⟩
  obtain ⟨B', x, k'⟩ := hh od
  exact t F Z B' _ σ D k' (q.sub x)
/-! ### going through a dict laid still -/
theorem dct_at {K : PySem.W.Frag} {B : Hp} {v : V} (w : Dp K B v (dctD s)) : ∃ p rr o, v = .ref p ∧ B p = some (.frz o (.dK rr)) ∧ KvAll K B rr s := by
  unfold dctD at w
  generalize hm : (s.map fun kv => (keyD kv.1, kv.2)) = m at w
  cases w with
  | @dct p rr s' o h hk t =>
    obtain rfl := dct_inj hm
    exact ⟨p, rr, o, rfl, h, KvAll.of hk t⟩
theorem KvAll.get {K : PySem.W.Frag} {B : Hp} : ∀ {r : List (Key × V)} {s : List (Key × PyData)} {i : Nat} {k : Key} {v : V}, KvAll K B r s → r[i]? = some (k, v) → ∃ d, s[i]? = some (k, d) ∧ Dp K B v d
  | _, _, _, _, _, .nil, e => by simp at e
  | _, _, 0, _, _, .cons h _, e => by simp at e; obtain ⟨rfl, rfl⟩ := e; exact ⟨_, rfl, h⟩
  | _, _, i + 1, k, v, .cons _ t, e => by
    obtain ⟨d, h1, h2⟩ := KvAll.get (i := i) (k := k) (v := v) t (by simpa using e)
    exact ⟨d, by simpa using h1, h2⟩
theorem di_dkeys (h : DE X ρ iter (.d (dctD s)) ρ1) : DI X ρ tg iter (s.map fun kv => keyD kv.1) ρ1 := fun F Z B H σ Q k q =>
  ⟨_, pi_keys pe_s, h F Z B H σ _ k fun v B1 H1 k1 x1 w => by
    obtain ⟨p, rr, o, rfl, hb, t⟩ := dct_at w
    refine ⟨p, o, rfl, .inl ⟨rr, k1.exB _ _ hb, q _ _ _ _ B1 H1 k1 x1 (by rw [List.length_map]; exact t.length) walk_keys (fun B2 H2 y1 y2 => y2 _ _ (y1 _ _ hb)) ?_⟩⟩
    rintro F2 Z2 B2 H2 σ2 ρ2 i v H3 k2 y2 hi ⟨rfl, kk, vv, hv, rfl⟩
    obtain ⟨d, h1, h2⟩ := t.get hv
    exact ⟨B2, keyD kk, by rw [List.getElem?_map, h1]; rfl, k2, Sub.refl B2, key_dp kk⟩⟩
theorem di_dvals (h : DE X ρ a (.d (dctD s)) ρ1) (hbase : attributeBase a "values" X.env (eval a X.env) = eval a X.env := by rfl) (hline : (apos.endLine == pos.line) = true := by rfl) : DI X ρ tg (.Call (.Attribute a "values" apos) [] [] pos) (s.map (·.2)) ρ1 := fun F Z B H σ Q k q =>
  ⟨_, pi_values pe_s hbase hline, h F Z B H σ _ k fun v B1 H1 k1 x1 w => by
    obtain ⟨p, rr, o, rfl, hb, t⟩ := dct_at w
    refine ⟨p, o, rr, rfl, k1.exB _ _ hb, q _ _ _ _ B1 H1 k1 x1 (by rw [List.length_map]; exact t.length) walk_values (fun B2 H2 y1 y2 => y2 _ _ (y1 _ _ hb)) ?_⟩
    rintro F2 Z2 B2 H2 σ2 ρ2 i v H3 k2 y2 hi ⟨rfl, kk, hv⟩
    obtain ⟨d, h1, h2⟩ := t.get hv
    exact ⟨B2, d, by rw [List.getElem?_map, h1]; rfl, k2, Sub.refl B2, dp_mono y2 h2⟩⟩
end
end G

set_option Elab.async false
set_option linter.all false
set_option maxRecDepth 100000
set_option maxHeartbeats 4000000
/- d.update(e); dict(pairs) with keys of all kinds; defs that return something new -/
namespace G
open PySem L2 PySem.Spec PyProof.Rows
def putAllD (s t : List (Key × PyData)) : List (Key × PyData) := t.foldl (fun acc p => putD acc p.1 p.2) s
theorem KvAll.putAll {K : PySem.W.Frag} {B : Hp} : ∀ {r2 : List (Key × V)} {s2 : List (Key × PyData)} {r : List (Key × V)} {s : List (Key × PyData)}, KvAll K B r2 s2 → KvAll K B r s → KvAll K B (mergeK r r2) (putAllD s s2)
  | _, _, _, _, .nil, h0 => h0
  | _, _, r0, s0, .cons (k := k) (v := v) (d := d) (r := r) (s := s) h t, h0 => by
    have q : KvAll K B (mergeK (putK r0 k v) r) (putAllD (putD s0 k d) s) := KvAll.putAll t (h0.put (k := k) h)
    exact q
theorem putAllD_len : ∀ (t s : List (Key × PyData)), (putAllD s t).length ≤ s.length + t.length
  | [], s => Nat.le_refl _
  | p :: t, s => by
    have h1 := putAllD_len t (putD s p.1 p.2)
    have h2 := putD_len (kvs := s) (k := p.1) (d := p.2)
    show (putAllD (putD s p.1 p.2) t).length ≤ _
    rw [List.length_cons]
    omega
section
variable {X : Cx} {pins : List (Addr × Obj)} {σ : L2.St} {H : Hp} {s : Shared} {a b : Addr} {r r2 : List (Key × V)}
theorem dk_upd {E : Value → Shared → Prop} {Q : Value → Shared → Prop} (I : Inv X pins σ H s) (h : H a = some (.dK r)) (h2 : Rd H b (.dK r2)) (hab : a ≠ b) (hz : r.length + r2.length ≤ 1000000)
    (q : ∀ s', Inv X pins σ (upd H a (.dK (mergeK r r2))) s' → Q .none s') : wpAny (model X.prog X.w) X.A (call (.builtin "dict.update") [.ref a, .ref b]) Q E s := by
  obtain ⟨z1, lo1, vs, kv, hD⟩ := dk_of I.hok h
  obtain ⟨z2, lo2, ws, kw, hD2⟩ := dk_rd I.hok h2
  have z0 : (1000000 : Nat) ≤ sizeLine := by decide
  refine call_meetsIn PySem.F.slot_dict_update hD.typeIs PySem.F.entry_dict_update (PySem.F.args_dict_update_2 _ _) (meets_dict_update (mixKind X.prog X.w) a b hab lo2)
    ⟨vs, ws, hD, hD2, (by rw [← kv.length, ← kw.length]; omega), fun h' hmm _ hs => ?_⟩
  have hlen : (mergeK r r2).length ≤ sizeLine := Nat.le_trans (length_mergeK r2 r) (by omega)
  obtain ⟨o, ho⟩ : ∃ o, h'.get? a = some o := by obtain ⟨o, _, _, ho, _⟩ := hmm; exact ⟨o, ho⟩
  exact q _ (I.write (e := a) (o := .dK (mergeK r r2)) (by rw [h]; trivial) (.inl rfl) (fun c u hc e => (hs.2 c hc).trans e) ⟨o, ho⟩ (show ObjOk X.prog X.w _ _ _ (.dK (mergeK r r2)) from ⟨hlen, lo1, _, kw.merge kv, hmm⟩))
end
section
variable {X : Cx} {ρ ρ' ρ1 ρ2 ρ3 : Env'} {a b c e : Expr} {es : List Expr} {pos p : Pos} {xs ys : List PyData} {sts rest as bs : List Stmt} {st : Stmt} {i : Nat} {b0 : Ob} {r : R} {s s2 : List (Key × PyData)}
/-- d.update(e) -/
theorem pe_dkUpd {ta : TA} {to : TE} {apos : Pos} (ho : PE X a to) (ha : PA X [e] ta) (hbase : attributeBase a "update" X.env (eval a X.env) = eval a X.env := by rfl)
    (hfew : ((backTo p (starEach [e] X.env)).all (fun x => !x.1) && (backToKw p (keywordEach [] X.env)).all (fun x => x.1.isSome) && decide ([e].length + ([] : List Keyword).length + (if ([] : List Keyword).isEmpty then 0 else 1) < 30)) = true := by rfl)
    (hline : (apos.endLine == p.line) = true := by rfl) (hs : starEach [e] X.env = (false, eval e X.env) :: starEach [] X.env := by rfl) (hpl : (backTo p (starEach [] X.env)).any (·.1) = false := by rfl) :
    PE X (.Call (.Attribute a "update" apos) [e] [] p) (fun σ H Q => to σ H fun x H1 => ∃ d r, x = .ref d ∧ H1 d = some (.dK r) ∧
      ta σ H1 fun vs H2 => ∃ b r r2, vs = [.ref b] ∧ H2 d = some (.dK r) ∧ Rd H2 b (.dK r2) ∧ d ≠ b ∧ r.length + r2.length ≤ 1000000 ∧ Q .non (upd H2 d (.dK (mergeK r r2)))) := by
  refine ⟨fun pins s σ H Q I h => ?_⟩
  refine wpAny_Call_method_late hbase hfew hline rfl (thn (ho.run pins s σ H _ I h) fun v s1 ⟨x, H1, I1, r1, d, r, ex, hd, q1⟩ => ?_)
  subst ex
  obtain rfl : v = Value.ref d := r1
  obtain ⟨_, _, vs, _, hm⟩ := dk_of I1.hok hd
  refine ⟨"dict", "dict.update", PySem.F.plainAttrs_dict, PySem.F.slot_dict_update, PySem.F.type_dict_update, hm.typeIs, fun a ea => ?_, ?_⟩
  · cases ea
    obtain ⟨o, es, ep, ho', hc, _⟩ := hm
    exact ⟨o, ho', hc.2.1⟩
  · have hA := ha.run p pins s1 σ H1 _ I1 q1
    rw [hs] at hA ⊢
    refine Calls.callWith_builtin (by show (false || (backTo p (starEach [] X.env)).any (·.1)) = false; rw [hpl] <;> rfl) (Calls.evalArgs_plain ?_)
    refine thn hA fun us s2 ⟨vs, H2, I2, r2, b, r, r3, ev, g1, g2, g3, g4, q2⟩ => ?_
    subst ev
    cases r2 with
    | cons r r' =>
      cases r'
      cases r
      exact dk_upd I2 g1 g2 g3 g4 fun s' I' => ⟨.non, _, I', rfl, q2⟩
theorem ds_dupd {apos : Pos} (h0 : DE X ρ a (.o i) ρ1) (h : DF X ρ1 e (.dk s2) ρ2) (hz : s.length + s2.length ≤ 1000000) (hs0 : ρ1[i]? = some (.o (.dk s)) := by rfl) (hs2 : ρ2[i]? = some (.o (.dk s)) := by rfl)
    (hbase : attributeBase a "update" X.env (eval a X.env) = eval a X.env := by rfl)
    (hfew : ((backTo p (starEach [e] X.env)).all (fun x => !x.1) && (backToKw p (keywordEach [] X.env)).all (fun x => x.1.isSome) && decide ([e].length + ([] : List Keyword).length + (if ([] : List Keyword).isEmpty then 0 else 1) < 30)) = true := by rfl)
    (hline : (apos.endLine == p.line) = true := by rfl) (hs : starEach [e] X.env = (false, eval e X.env) :: starEach [] X.env := by rfl) (hpl : (backTo p (starEach [] X.env)).any (·.1) = false := by rfl)
    (hsw : swapsWith (.Call (.Attribute a "update" apos) [e] [] p) none pos.line X.env = pure false := by rfl) :
    DS X ρ (.Expr (.Call (.Attribute a "update" apos) [e] [] p) pos) (.nx (ρ2.set i (.o (.dk (putAllD s s2))))) := fun F Z B H σ D k q =>
  ⟨_, ps_expr (pe_dkUpd pe_s (pa_cons pe_s pa_nil hs) hbase hfew hline hs hpl) hsw, h0 F Z B H σ _ k fun v B1 H1 k1 x1 w1 => by
    obtain ⟨v', as, g1, g2, _⟩ := k1.ob (gS_some hs0)
    have w' : gV σ i = some v := w1
    rw [w'] at g1
    cases g1
    cases g2 with
    | @dk d r _ d1 t1 =>
    refine ⟨d, r, rfl, d1, h F Z B1 H1 σ _ k1 fun c B2 H2 k2 x2 n ob => ?_⟩
    obtain ⟨v', as, g1, g2, g3⟩ := k2.ob (gS_some hs2)
    rw [w'] at g1
    cases g1
    have d0 := g2
    cases g2 with
    | @dk _ r' _ d2 t2 =>
    cases ob with
    | @dk _ r3 _ d3 t3 =>
    have ne : d ≠ c := fun e => by
      obtain ⟨own, o1, o2, o3⟩ := k2.own
      exact n.o i _ _ _ (gS_some hs2) w' d0 (by rw [e]; exact List.mem_singleton.mpr rfl)
    refine ⟨c, r', r3, rfl, d2, .inl d3, ne, by rw [t2.length, t3.length]; exact hz, ?_⟩
    exact q B2 _ σ (k2.turn (gS_some hs2) w' d0 (.dk upd_same (t3.putAll t2)) fun c hc => by
      rw [upd_ne fun z => hc (by rw [z]; exact List.mem_singleton.mpr rfl)]) (x1.trans x2)⟩
/-- dict(pairs) -/
def pairK (p : Key × PyData) : PyData := .tuple [keyD p.1, p.2]
theorem pairsK {K : PySem.W.Frag} {B : Hp} : ∀ {kvs : List (Key × PyData)} {vs : List V}, DpAll K B vs (kvs.map pairK) → ∃ (ps : List Addr) (rs : List (Key × V)), vs = ps.map V.ref ∧ KvAll K B rs kvs ∧ Paired (fun p (kv : Key × V) => SqT K B p [kV kv.1, kv.2]) ps rs
  | [], _, h => by cases h; exact ⟨[], [], rfl, .nil, .nil⟩
  | p :: kvs, _, h => by
    cases h with
    | cons h t =>
      obtain ⟨ps, rs, e1, e2, e3⟩ := pairsK t
      cases h with
      | @tup T us _ s n r =>
        cases r with
        | @cons v1 _ _ _ h1 r =>
          cases r with
          | @cons v2 _ _ _ h2 r =>
            cases r
            obtain rfl := dp_key h1
            exact ⟨T :: ps, (p.1, v2) :: rs, by rw [e1]; rfl, .cons h2 e2, .cons s e3⟩
theorem df_dict (hc : X.calm = true) (h : DLd X ρ e (s.map pairK) ρ1) (hm : X.mg "dict" = none) (hg : Gl X "dict" := by rfl) (he : starEach [e] X.env = (false, eval e X.env) :: starEach [] X.env := by rfl) (hpl : (backTo pos (starEach [] X.env)).any (·.1) = false := by rfl) :
    DF X ρ (.Call (.Name "dict" p) [e] [] pos) (.dk (putAllD [] s)) ρ1 := fun F Z B H σ Q k q =>
  ⟨_, pe_callTy (call_dictP hc) hg hm PyProof.Rows.boot_dict (pa_cons pe_s pa_nil he) (by decide) (by decide) he hpl, h F Z B H σ _ k fun a us B1 H1 k1 x1 hs t => by
    obtain ⟨ps, rs, e1, e2, e3⟩ := pairsK t
    subst e1
    have mono : ∀ {l : List Addr} {m : List (Key × V)}, Paired (fun p (kv : Key × V) => SqT X.K B1 p [kV kv.1, kv.2]) l m → Paired (fun p (kv : Key × V) => SqT X.K H1 p [kV kv.1, kv.2]) l m := by
      intro l m r
      induction r with
      | nil => exact .nil
      | cons h _ ih => exact .cons (h.imp k1.exB.rd id) ih
    refine ⟨a, ps, rs, rfl, hs, mono e3, fun l hl => ?_⟩
    exact q l B1 _ (k1.loose hl _) x1 (k1.laid hl _) (.dk upd_same (e2.putAll .nil))⟩
/-! ### defs that return something new -/
def DBo (X : Cx) (ρ : Env') (sts : List Stmt) (b : Ob) : Prop := ∀ F Z B H σ D, Ok X.K F Z B H σ ρ →
  (∀ p B' H' σ' ρ', Ok X.K F Z B' H' σ' ρ' → Sub B B' → F p = none → B' p = none → ¬ Z p → ObAt X.K B' H' (.ref p) [p] b → D.rt (.ref p) H') → sB X sts D σ H
theorem dbo_cons (h : DS X ρ st (.nx ρ1)) (t : DBo X ρ1 rest b0) : DBo X ρ (st :: rest) b0 := fun F Z B H σ D k q =>
  ⟨_, pss_cons ps_s pb_s, h F Z B H σ { D with nx := fun σ' H' => sB X rest D σ' H' } k fun B' H' σ' k' x => t F Z B' H' σ' D k' fun p B2 H2 σ2 ρ2 k2 x2 => q p B2 H2 σ2 ρ2 k2 (x.trans x2)⟩
theorem dbo_at (ρ2 : Env') (e : ρ = ρ2) (h : DBo X ρ2 sts b0) : DBo X ρ sts b0 := e ▸ h
theorem dbo_retF (h : DF X ρ e b0 ρ1) : DBo X ρ [.Return (some e) pos] b0 := fun F Z B H σ D k q =>
  ⟨_, pss_one (ps_ret pe_s), h F Z B H σ _ k fun p B' H' k' x n ob => q p B' H' σ ρ1 k' x n.f n.b n.z ob⟩
theorem dbo_retO {l : List PyData} (h : DE X ρ e (.o i) ρ1) (hs : ρ1[i]? = some (.o (.lst l)) := by rfl) : DBo X ρ [.Return (some e) pos] (.lst l) := fun F Z B H σ D k q =>
  ⟨_, pss_one (ps_ret pe_s), h F Z B H σ _ k fun v B' H' k' x w => by
    obtain ⟨v', as, g1, g2, g3⟩ := k'.ob (gS_some hs)
    have w' : gV σ i = some v := w
    rw [w'] at g1
    cases g1
    have g := g2
    cases g2 with
    | @lst a _ _ h1 t1 =>
    obtain ⟨f1, f2, f3⟩ := g3 a List.mem_cons_self
    exact q a B' H' σ ρ1 k' x f1 f2 f3 g⟩
/-- either of two that is returned, a new list -/
theorem dbo_retE {x : Bool} {l : List PyData} {i : Nat} (hc : DT X ρ c x ρ1) (h1 : x = true → DE X ρ1 a (.o i) ρ2 ∧ ρ2[i]? = some (.o (.lst l))) (h2 : x = false → DL X ρ1 b l ρ2) : DBo X ρ [.Return (some (.IfExp c a b p)) pos] (.lst l) := fun F Z B H σ D k q =>
  ⟨_, pss_one (ps_ret (pe_ifExp pt_s pe_s pe_s)), hc F Z B H σ _ k fun B1 H1 k1 x1 => by
    cases x with
    | true =>
      rw [if_pos rfl]
      obtain ⟨h, hs⟩ := h1 rfl
      refine h F Z B1 H1 σ _ k1 fun v B' H' k' x w => ?_
      obtain ⟨v', as, g1, g2, g3⟩ := k'.ob (gS_some hs)
      have w' : gV σ i = some v := w
      rw [w'] at g1
      cases g1
      have g := g2
      cases g2 with
      | @lst a _ _ h1 t1 =>
      obtain ⟨f1, f2, f3⟩ := g3 a List.mem_cons_self
      exact q a B' H' σ ρ2 k' (x1.trans x) f1 f2 f3 g
    | false =>
      rw [if_neg (by decide)]
      exact h2 rfl F Z B1 H1 σ _ k1 fun p us B' H' k' x n hp t => q p B' H' σ ρ2 k' (x1.trans x) n.f n.b n.z (.lst hp t)⟩
theorem dl_ifE {x : Bool} (h : DT X ρ c x ρ1) (h1 : x = true → DL X ρ1 a xs ρ2) (h2 : x = false → DL X ρ1 b xs ρ2) : DL X ρ (.IfExp c a b pos) xs ρ2 := fun F Z B H σ Q k q =>
  ⟨_, pe_ifExp pt_s pe_s pe_s, h F Z B H σ _ k fun B1 H1 k1 x1 => by
    cases x with
    | true =>
      rw [if_pos rfl]
      exact h1 rfl F Z B1 H1 σ Q k1 fun p us B2 H2 k2 x2 n hp t => q p us B2 H2 k2 (x1.trans x2) n hp t
    | false =>
      rw [if_neg (by decide)]
      exact h2 rfl F Z B1 H1 σ Q k1 fun p us B2 H2 k2 x2 n hp t => q p us B2 H2 k2 (x1.trans x2) n hp t⟩
theorem da_starQ (hq : RQ ρ1 r xs) (h : DE X ρ e r ρ1) (t : DA X ρ1 es ys ρ2) (hs : starEach (.Starred e p :: es) X.env = (true, eval e X.env) :: starEach es X.env := by rfl) : DA X ρ (.Starred e p :: es) (xs ++ ys) ρ2 := fun F Z B H σ Q k q =>
  ⟨_, StX.pa_star pe_s pa_s hs, h F Z B H σ _ k fun v B1 H1 k1 x1 w => by
    obtain ⟨a, vs, rfl, s, t0⟩ := hq.at k1 w
    exact ⟨a, vs, rfl, s.symm, t F Z B1 H1 σ _ k1 fun us B2 H2 k2 x2 t2 => q _ B2 H2 k2 (x1.trans x2) (G.DpAll.append (dpAll_mono x2 t0) t2)⟩⟩
def spO (K : PySem.W.Frag) (Φ : List PyData → Ob → Prop) : Sp := fun vs H Q _ => ∃ F Z B ds b, Φ ds b ∧ Ok K F Z B H (vs.map some) (ds.map Sl.d) ∧
  ∀ p B' H', Ok K F Z B' H' (vs.map some) (ds.map Sl.d) → Sub B B' → F p = none → B' p = none → ¬ Z p → ObAt K B' H' (.ref p) [p] b → Q (.ref p) H'
theorem fnO_of {P : Program} {w : World} {K : PySem.W.Frag} {mg : Str → Option Value} {base : Heap} {x qual : Str} {sd : Stmt} {f : Addr} {fd : FuncData} {N ps : List Str} {k : Nat} {Φ : List PyData → Ob → Prop} (Fn : Fun K x qual sd f fd) (S : FnScope N ps (defScope sd)) (len : ∀ ds d, Φ ds d → ds.length = ps.length)
    (body : ∀ (cdv : Value) (A : Around) (outer : List Env) (s : Shared) (H : Hp) (E : XK) (ds : List PyData) (d : Ob), A.guards = some [] → Room k (A.deeper (envOfC qual (defScope sd) s.heap.objs.size f cdv)) → Φ ds d →
      DBo (cxOf L2.CX0 P w K mg base N qual (defScope sd) f cdv A outer s H E).nox (ds.map Sl.d ++ List.replicate (N.length - ds.length) .un) (defBody sd) d) :
    FnG P w K mg base (k + 1) f fd ps (spO K Φ) := by
  refine fnG_of Fn S ?_ ?_
  · rintro vs H Q E ⟨F, Z, B, ds, d, h, k, _⟩
    have e := k.len
    rw [List.length_map, List.length_map] at e
    rw [e, len ds d h]
  · rintro cdv A outer s H vs Q E hg hr ⟨F, Z, B, ds, d, h, k, q⟩
    have hb := body cdv A outer s H E ds d hg hr h
    have e := k.len
    rw [List.length_map, List.length_map] at e
    have kk := k.app (N.length - ds.length)
    refine ⟨_, pb_s, hb F Z B H _ _ (by unfold L2.start; rw [e]; exact kk) fun p B' H' σ' ρ' k' y f1 f2 f3 ob => ?_⟩
    obtain ⟨own, _, _, h3⟩ := k.own
    have rd : DpAll K B vs ds := dpAll_of vs ds e h3
    exact q p B' H' (okD k'.exF k'.exB k'.z (dpAll_mono y rd)) y f1 f2 f3 ob
theorem df_callO {x : Str} {k : Nat} {f : Addr} {fd : FuncData} {ps : List Str} {ds : List PyData} {Φ : List PyData → Ob → Prop} (Fn : FnG X.prog X.w X.K X.mg X.base k f fd ps (spO X.K Φ)) (hgd : X.A.guards = some []) (hr : Room k X.A) (hm : X.mg x = some (.ref f)) (hk : PySem.W.keepIn X.K (.ref f) = true) (hb : Binds X.K fd ps [])
    (hΦ : Φ ds b0) (h : DA X ρ (e :: es) ds ρ1) (hg : Gl X x := by rfl) (hdb : (x == ("__debug__" : Str)) = false := by decide) (he : starEach (e :: es) X.env = (false, eval e X.env) :: starEach es X.env := by rfl)
    (hpl : (backTo pos (starEach es X.env)).any (·.1) = false := by rfl) : DF X ρ (.Call (.Name x p) (e :: es) [] pos) b0 ρ1 := fun F Z B H σ Q k' q =>
  ⟨_, pe_callG Fn hgd hr hg hm hk hb pa_s hdb he hpl, h F Z B H σ _ k' fun vs B1 H1 k1 x1 tt => by
    show spO X.K Φ (vs ++ []) H1 _ L2.E0
    rw [List.append_nil]
    refine ⟨H1, fun b => H1 b ≠ none ∧ B1 b = none, B1, ds, b0, hΦ, okD (Sub.refl H1) k1.exB (fun b hb => ⟨hb.2, Option.ne_none_iff_exists'.mp hb.1⟩) tt, fun a B2 H2 k2 y f1 f2 f3 ob => ?_⟩
    have k3 := k1.grow y k2.exF k2.exB fun b hb hb' => (k2.z b ⟨hb, hb'⟩).1
    obtain ⟨z1, z2, z3⟩ := k1.fresh f1
    refine q a B2 H2 k3 (x1.trans y) ⟨z1, f2, z3, fun j b v as g1 g2 g3 m => ?_⟩ ob
    obtain ⟨v', as', f1', f2', f3'⟩ := k1.ob g1
    rw [g2] at f1'
    cases f1'
    have e : as = as' := ObAt.uni g3 f2' fun d hd => by
      obtain ⟨o, ho⟩ := f2'.live d hd
      rw [ho, k2.exF d o ho]
    rw [e] at m
    obtain ⟨o, ho⟩ := f2'.live _ m
    rw [f1] at ho; cases ho⟩
theorem DF.dl (h : DF X ρ e (.lst xs) ρ1) : DL X ρ e xs ρ1 := fun F Z B H σ Q k q => h F Z B H σ Q k fun p B' H' k' x n ob => by
  cases ob with
  | lst hp t => exact q p _ B' H' k' x n hp t
end
end G

set_option Elab.async false
set_option linter.all false
set_option maxRecDepth 100000
set_option maxHeartbeats 4000000
/- *d, d a dict; a def that gives its own dict back -/
namespace G
open PySem L2 PySem.Spec PyProof.Rows
section
variable {X : Cx} {pins : List (Addr × Obj)} {σ : L2.St} {H : Hp} {s : Shared}
theorem star_dict {a : Addr} {kvs : List (Key × V)} {E : Value → Shared → Prop} {Q : List Value → Shared → Prop} (hc : X.calm = true) (I : Inv X pins σ H s) (h : Rd H a (.dK kvs)) (hQ : ∀ us s', Inv X pins σ H s' → Vals (kvs.map fun kv => kV kv.1) us → Q us s') : PySem.W.StarOf (model X.prog X.w) X.A E (.ref a) Q s := by
  obtain ⟨z, lo, vs, rel, dd⟩ := dk_rd I.hok h
  obtain ⟨ep, hat⟩ := dd.dictAt
  have ek : (kvs.map fun kv => kV kv.1) = vs.map fun p => kV p.1 := by
    have e := congrArg (List.map kV) rel.keys
    rw [List.map_map, List.map_map] at e
    exact e
  have z1 : wpAny (model X.prog X.w) X.A (collect (.ref a)) Q E s := by
    refine PySem.W.kdu_collect (PySem.W.kdl_dict (knd := mixKind X.prog X.w) (kvs := vs) (ep := ep) lo) (I.ok.hd hc) hat (by rw [← rel.length]; exact z) fun h' tk acc hk hacc => ?_
    have hv : Vals (vs.map fun p => kV p.1) acc.toList := keys_at (by rw [Array.length_toList]; exact hacc.1) fun j v e => hacc.2 j v (by rw [← Array.getElem?_toList]; exact e)
    exact hQ acc.toList _ (I.kept (t' := tk) hk) (by rw [ek]; exact hv)
  unfold PySem.W.StarOf notIterableAtAll
  exact wpAny_bind (wpAny_specialOf hat.dictOf.typeIs PySem.F.slot_dict_iter.lookup (wpAny_pure ⟨rfl, z1⟩))
end
def tStarD (te : TE) (t : TA) : TA := fun σ H Q => te σ H fun x H1 => ∃ p kvs, x = V.ref p ∧ Rd H1 p (.dK kvs) ∧ t σ H1 fun ys H2 => Q ((kvs.map fun kv => kV kv.1) ++ ys) H2
section
variable {X : Cx} {ρ ρ1 ρ2 : Env'} {e : Expr} {es : List Expr} {p pos : Pos} {ys : List PyData} {te : TE} {t : TA} {s : List (Key × PyData)} {r : R} {i : Nat}
theorem pa_starD (hc : X.calm = true) (he : PE X e te) (hr : PA X es t) (hs : starEach (.Starred e p :: es) X.env = (true, eval e X.env) :: starEach es X.env := by rfl) : PA X (.Starred e p :: es) (tStarD te t) := by
  refine ⟨fun pos pins s σ H Q I h => ?_⟩
  refine PySem.W.items_star (thn (he.run pins s σ H _ I h) fun v s1 ⟨y, H1, I1, ry, a, xs, ey, hx, q⟩ => ?_) hs
  subst ey
  obtain rfl : v = Value.ref a := ry
  refine star_dict hc I1 hx fun us s2 I2 rv => ?_
  exact thn (hr.run pos pins s2 σ H1 _ I2 q) fun ws s3 ⟨vs, H3, I3, r3, q3⟩ => ⟨_, H3, I3, rv.append r3, q3⟩
theorem da_starD (hc : X.calm = true) (hq : RD ρ1 r s) (h : DE X ρ e r ρ1) (t : DA X ρ1 es ys ρ2) (hs : starEach (.Starred e p :: es) X.env = (true, eval e X.env) :: starEach es X.env := by rfl) : DA X ρ (.Starred e p :: es) ((s.map fun kv => keyD kv.1) ++ ys) ρ2 := fun F Z B H σ Q k q =>
  ⟨_, pa_starD hc pe_s pa_s hs, h F Z B H σ _ k fun v B1 H1 k1 x1 w1 => by
    obtain ⟨a, rr, rfl, hh, t0⟩ := hq.at k1 w1
    have ks : ∀ {rr : List (Key × V)} {s : List (Key × PyData)}, KvAll X.K B1 rr s → DpAll X.K B1 (rr.map fun kv => kV kv.1) (s.map fun kv => keyD kv.1) := by
      intro rr s t
      induction t with
      | nil => exact .nil
      | cons _ _ ih => exact .cons (key_dp _) ih
    exact ⟨a, rr, rfl, hh, t F Z B1 H1 σ _ k1 fun us B2 H2 k2 x2 t2 => q _ B2 H2 k2 (x1.trans x2) (G.DpAll.append (dpAll_mono x2 (ks t0)) t2)⟩⟩
theorem dbo_retK (h : DE X ρ e (.o i) ρ1) (hs : ρ1[i]? = some (.o (.dk s)) := by rfl) : DBo X ρ [.Return (some e) pos] (.dk s) := fun F Z B H σ D k q =>
  ⟨_, pss_one (ps_ret pe_s), h F Z B H σ _ k fun v B' H' k' x w => by
    obtain ⟨v', as, g1, g2, g3⟩ := k'.ob (gS_some hs)
    have w' : gV σ i = some v := w
    rw [w'] at g1
    cases g1
    have g := g2
    cases g2 with
    | @dk a _ _ h1 t1 =>
    obtain ⟨f1, f2, f3⟩ := g3 a List.mem_cons_self
    exact q a B' H' σ ρ1 k' x f1 f2 f3 g⟩
end
end G

set_option Elab.async false
set_option linter.all false
set_option maxRecDepth 100000
set_option maxHeartbeats 4000000
/- types counted: what the dicts hold -/
namespace G
open PySem L2 PySem.Spec PyProof.Rows
def tyL (r : Nat) (L : List Wb) : List NestedKey := L.map fun W => tyR W r []
def cnt (k : NestedKey) (ks : List NestedKey) : Nat := (ks.filter fun z => decide (z = k)).length
theorem cnt_snoc (k z : NestedKey) (ks : List NestedKey) : cnt z (ks ++ [k]) = cnt z ks + if k = z then 1 else 0 := by
  unfold cnt
  rw [List.filter_append, List.length_append]
  by_cases e : k = z
  · simp [e]
  · simp [e]
theorem cnt_zero {k : NestedKey} {ks : List NestedKey} (h : k ∉ ks) : cnt k ks = 0 := by
  unfold cnt
  rw [List.filter_eq_nil_iff.mpr]
  · rfl
  · intro z hz
    simp only [decide_eq_true_iff]
    exact fun e => h (e ▸ hz)
def ofK (c : NestedKey → Nat) (D : List NestedKey) : List (Key × PyData) := D.map fun k => ((.inr (txt k) : Key), .int (c k : Nat))
def cntD (ks : List NestedKey) : List (Key × PyData) := ofK (fun k => cnt k ks) (ks.foldl addK [])
theorem dk_fold (ks : List NestedKey) (k : NestedKey) : (ks ++ [k]).foldl addK [] = addK (ks.foldl addK []) k := by rw [List.foldl_append]; rfl
theorem mem_fold {k : NestedKey} {ks : List NestedKey} : k ∈ ks.foldl addK [] ↔ k ∈ ks := by simp [mem_addAll]
theorem lk_ofK {c : NestedKey → Nat} {k : NestedKey} (hk : Sm k) : ∀ {D : List NestedKey}, (∀ z ∈ D, Sm z) → lkD (ofK c D) (.inr (txt k)) = if k ∈ D then some (.int (c k : Nat)) else none
  | [], _ => by simp [lkD, ofK]
  | z :: D, h => by
    have ih := lk_ofK (c := c) hk (D := D) fun y hy => h y (List.mem_cons_of_mem _ hy)
    unfold lkD ofK at ih ⊢
    rw [List.map_cons, List.find?_cons]
    by_cases e : z = k
    · subst e
      simp
    · have ne : ¬ ((.inr (txt z) : Key) = .inr (txt k)) := fun q => e (shown_inj (h z List.mem_cons_self) hk (Sum.inr.inj q))
      rw [decide_eq_false ne]
      show Option.map _ _ = _
      rw [ih]
      have : (k ∈ z :: D) ↔ k ∈ D := by
        rw [List.mem_cons]
        exact ⟨fun q => q.resolve_left fun q => e q.symm, .inr⟩
      by_cases m : k ∈ D
      · rw [if_pos m, if_pos (this.mpr m)]
      · rw [if_neg m, if_neg fun q => m (this.mp q)]
theorem lk_cnt {ks : List NestedKey} {k : NestedKey} (h : ∀ z ∈ ks, Sm z) (hk : Sm k) : (lkD (cntD ks) (.inr (txt k))).getD (.int 0) = .int (cnt k ks : Nat) := by
  unfold cntD
  rw [lk_ofK hk fun z hz => h z (mem_fold.mp hz)]
  by_cases m : k ∈ ks
  · rw [if_pos (mem_fold.mpr m)]; rfl
  · rw [if_neg fun q => m (mem_fold.mp q), cnt_zero m]; rfl
theorem cnt_put {ks : List NestedKey} {k : NestedKey} (h : ∀ z ∈ ks, Sm z) (hk : Sm k) : putD (cntD ks) (.inr (txt k)) (.int ((cnt k ks : Nat) + 1)) = cntD (ks ++ [k]) := by
  have sm : ∀ z ∈ ks.foldl addK [], Sm z := fun z hz => h z (mem_fold.mp hz)
  unfold cntD ofK
  rw [dk_fold]
  generalize ks.foldl addK [] = D at sm ⊢
  unfold putD addK
  by_cases m : k ∈ D
  · rw [if_pos m, if_pos (List.any_eq_true.mpr ⟨_, List.mem_map_of_mem m, by simp⟩), List.map_map]
    refine List.map_congr_left fun z hz => ?_
    show (if ((.inr (txt z) : Key)) = .inr (txt k) then ((.inr (txt z) : Key), PyData.int ((cnt k ks : Nat) + 1)) else ((.inr (txt z) : Key), .int (cnt z ks : Nat))) = ((.inr (txt z) : Key), .int (cnt z (ks ++ [k]) : Nat))
    rw [cnt_snoc]
    by_cases e : z = k
    · subst e
      rw [if_pos rfl, if_pos rfl]; rfl
    · have ne : ¬ ((.inr (txt z) : Key) = .inr (txt k)) := fun q => e (shown_inj (sm z hz) hk (Sum.inr.inj q))
      have ne2 : ¬ (k = z) := fun q => e q.symm
      rw [if_neg ne, if_neg ne2]; rfl
  · rw [if_neg m, if_neg ?_, List.map_append]
    · congr 1
      · refine List.map_congr_left fun z hz => ?_
        have ne2 : ¬ (k = z) := fun q => m (q ▸ hz)
        show ((.inr (txt z) : Key), PyData.int (cnt z ks : Nat)) = ((.inr (txt z) : Key), .int (cnt z (ks ++ [k]) : Nat))
        rw [cnt_snoc, if_neg ne2]; rfl
      · show [((.inr (txt k) : Key), PyData.int ((cnt k ks : Nat) + 1))] = [((.inr (txt k) : Key), .int (cnt k (ks ++ [k]) : Nat))]
        rw [cnt_snoc, if_pos rfl]; rfl
    · intro z
      obtain ⟨q, hq, e⟩ := List.any_eq_true.mp z
      obtain ⟨z', hz', rfl⟩ := List.mem_map.mp hq
      exact m (shown_inj (sm z' hz') hk (Sum.inr.inj (of_decide_eq_true e)) ▸ hz')
/-- the table of texts when all differ -/
theorem tab_all : ∀ (l : List (Str × PyData)) (acc : List (Key × PyData)), ((acc.map (·.1)) ++ l.map fun p => (.inr p.1 : Key)).Nodup → l.foldl (fun kvs p => putD kvs (.inr p.1) p.2) acc = acc ++ l.map fun p => ((.inr p.1 : Key), p.2)
  | [], acc, _ => by simp
  | p :: l, acc, h => by
    rw [List.foldl_cons]
    have nk : ¬ (acc.any fun kv => decide (kv.1 = (.inr p.1 : Key))) = true := fun q => by
      obtain ⟨kv, hkv, e⟩ := List.any_eq_true.mp q
      exact (List.nodup_append.mp h).2.2 _ (List.mem_map_of_mem hkv) (.inr p.1) List.mem_cons_self (of_decide_eq_true e)
    have e : putD acc (.inr p.1) p.2 = acc ++ [((.inr p.1 : Key), p.2)] := by unfold putD; rw [if_neg nk]
    rw [e, tab_all l _ (by rw [List.map_append, List.append_assoc]; exact h), List.append_assoc]; rfl
theorem onceT_nodup (ks : List NestedKey) : (onceT ks).Nodup := (List.mergeSort_perm _ _).nodup_iff.mpr (addAll_nodup (by simp))
theorem tab_onceT {ks : List NestedKey} (h : ∀ k ∈ ks, Sm k) (c : NestedKey → Nat) : tabL ((onceT ks).map fun k => (txt k, PyData.int (c k : Nat))) = ofK c (onceT ks) := by
  unfold tabL
  rw [tab_all]
  · rw [List.nil_append, List.map_map]; rfl
  · rw [List.map_nil, List.nil_append, List.map_map]
    refine List.pairwise_map.mpr (List.Pairwise.imp_of_mem (fun {a b} ha hb ne e => ne ?_) (onceT_nodup ks))
    exact shown_inj (h a (mem_onceT.mp ha)) (h b (mem_onceT.mp hb)) (Sum.inr.inj e)
theorem lk_once {ks : List NestedKey} {k : NestedKey} (h : ∀ z ∈ ks, Sm z) (hk : Sm k) : (lkD (ofK (fun k => cnt k ks) (onceT ks)) (.inr (txt k))).getD (.int 0) = .int (cnt k ks : Nat) := by
  rw [lk_ofK hk fun z hz => h z (mem_onceT.mp hz)]
  by_cases m : k ∈ ks
  · rw [if_pos (mem_onceT.mpr m)]; rfl
  · rw [if_neg fun q => m (mem_onceT.mp q), cnt_zero m]; rfl
/-- as many, or at least r -/
def fitB (r : Nat) (ks ms : List NestedKey) (k : NestedKey) : Bool := decide (cnt k ks = cnt k ms) || decide (r ≤ min (cnt k ks) (cnt k ms))
def okB (r : Nat) (ks ms : List NestedKey) : Bool := (ks ++ ms).all (fitB r ks ms)
theorem ok_once (r : Nat) (ks ms : List NestedKey) : (onceT ks ++ onceT ms).all (fitB r ks ms) = okB r ks ms := by
  unfold okB
  rw [Bool.eq_iff_iff, List.all_eq_true, List.all_eq_true]
  simp only [List.mem_append, mem_onceT]
theorem ok_fold (r : Nat) (ks ms : List NestedKey) : (ks.foldl addK [] ++ ms.foldl addK []).all (fitB r ks ms) = okB r ks ms := by
  unfold okB
  rw [Bool.eq_iff_iff, List.all_eq_true, List.all_eq_true]
  simp only [List.mem_append, mem_fold]
theorem ok_swap (r : Nat) (ks ms : List NestedKey) : okB r ms ks = okB r ks ms := by
  unfold okB
  rw [Bool.eq_iff_iff, List.all_eq_true, List.all_eq_true]
  have f : ∀ k, fitB r ms ks k = fitB r ks ms k := fun k => by
    unfold fitB
    rw [Nat.min_comm]
    congr 1
    exact decide_eq_decide.mpr eq_comm
  simp only [List.mem_append, f]
  exact ⟨fun h k hk => h k hk.symm, fun h k hk => h k hk.symm⟩
theorem cnt_same {r : Nat} (hr : r ≤ 10) {W : Wb} {L : List Wb} (hW : Dg W) (hL : ∀ U ∈ L, Dg U) : cnt (tyR W r []) (tyL r L) = (L.filter (sameT r W)).length := by
  unfold cnt tyL
  rw [List.filter_map, List.length_map]
  congr 1
  refine List.filter_congr fun U hU => ?_
  show decide (tyR U r [] = tyR W r []) = sameT r W U
  unfold sameT
  rw [Bool.eq_iff_iff, decide_eq_true_iff, ← ty_kept hW (hL U hU) r [] [] rfl (by simpa using hr)]
  exact eq_comm
theorem ok_alk {r : Nat} (hr : r ≤ 10) {L M : List Wb} (hL : ∀ U ∈ L, Dg U) (hM : ∀ U ∈ M, Dg U) (h : okB r (tyL r L) (tyL r M) = true) : Alk r L M := fun W hW => by
  have dW : Dg W := (List.mem_append.mp hW).elim (hL W) (hM W)
  unfold okB at h
  have m : tyR W r [] ∈ tyL r L ++ tyL r M := (List.mem_append.mp hW).elim (fun q => List.mem_append_left _ (List.mem_map_of_mem q)) fun q => List.mem_append_right _ (List.mem_map_of_mem q)
  have q := List.all_eq_true.mp h _ m
  unfold fitB at q
  rw [cnt_same hr dW hL, cnt_same hr dW hM, Bool.or_eq_true, decide_eq_true_iff, decide_eq_true_iff] at q
  omega
theorem sm_tyL {r : Nat} (hr : r ≤ 10) {L : List Wb} (hL : ∀ U ∈ L, Dg U) : ∀ k ∈ tyL r L, Sm k := fun k hk => by
  obtain ⟨W, hW, rfl⟩ := List.mem_map.mp hk
  exact sm_tyR (hL W hW) r [] (by simpa using hr)
end G

set_option Elab.async false
set_option linter.all false
set_option maxRecDepth 100000
set_option maxHeartbeats 4000000
/- x, y = {}, {} -/
namespace G
open PySem L2 PySem.Spec PyProof.Rows
section
variable {X : Cx} {ρ ρ1 ρ2 : Env'} {a b : Expr} {pos : Pos} {b1 b2 : Ob}
theorem df_empty {pos : Pos} : DF X ρ (.Dict [] [] pos) (.dk []) ρ := fun F Z B H σ Q k q => ⟨_, pe_dnewK, fun d hd => q d B _ (k.loose hd _) (Sub.refl B) (k.laid hd _) (.dk upd_same .nil)⟩
theorem ds_par2F {i j : Nat} {x y : Str} {s1 s2 : Sl} {px py pt pt2 : Pos} {kt k2} (hc : X.calm = true) (hN : X.N.Nodup) (h2 : DF X ρ a b1 ρ1) (h3 : DF X ρ1 b b2 ρ2)
    (hr1 : ρ2[i]? = some s1 := by rfl) (hr2 : ρ2[j]? = some s2 := by rfl) (hi : X.N[i]? = some x := by rfl) (hj : X.N[j]? = some y := by rfl) (hij : i ≠ j := by decide)
    (lx : X.env.scope.names.lookup x = some .local := by rfl) (ly : X.env.scope.names.lookup y = some .local := by rfl)
    (hw : swappedStores [.Tuple [.Name x px, .Name y py] kt pt] (.Tuple [a, b] k2 pt2) X.env = pure (some [x, y]) := by rfl)
    (hs : swapsWithSole [.Tuple [.Name x px, .Name y py] kt pt] (.Tuple [a, b] k2 pt2) pos.line X.env = pure false := by rfl)
    (hs1 : starEach [a, b] X.env = (false, eval a X.env) :: starEach [b] X.env := by rfl) (hs2 : starEach [b] X.env = (false, eval b X.env) :: starEach [] X.env := by rfl) :
    DS X ρ (.Assign [.Tuple [.Name x px, .Name y py] kt pt] (.Tuple [a, b] k2 pt2) pos) (.nx ((ρ2.set i (.o b1)).set j (.o b2))) := fun F Z B H σ D k q =>
  ⟨_, ps_par hc hN hi hj hij lx ly (pa_cons pe_s (pa_cons pe_s pa_nil hs2) hs1) hw hs,
    h2 F Z B H σ _ k fun p2 B2 H2 k2 x2 n2 ob2 => by
    obtain ⟨o2', hp2⟩ := ob2.live p2 List.mem_cons_self
    refine h3 _ _ B2 H2 σ _ (k2.lock n2 hp2) fun p3 B3 H3 k3 x3 n3 ob3 => ?_
    obtain ⟨k4, n4, h4⟩ := k3.unlock n2.f n2.z
    obtain ⟨n5, ne⟩ := n3.less
    have i1 : i < ρ2.length := (List.getElem?_eq_some_iff.mp hr1).1
    have j1 : j < ρ2.length := (List.getElem?_eq_some_iff.mp hr2).1
    have o2 : ObAt X.K B3 H3 (.ref p2) [p2] b1 := ob2.mono x3 fun a ha => by rw [List.mem_singleton.mp ha, h4, hp2]
    have k5 := k4.take n4 i1 o2
    have n6 := n5.setO (i := i) (v := .ref p2) k4.len o2 (by simpa using ne)
    have k6 := k5.take n6 (by rw [List.length_set]; exact j1) ob3
    exact ⟨.ref p2, .ref p3, rfl, q B3 H3 _ k6 (x2.trans x3)⟩⟩
/-- x, y = {}, {} (names that are cells) -/
theorem ds_asgFF {i j : Nat} {x y : Str} {s1 s2 : Sl} {px py pt pt2 : Pos} {kt k2} (hc : X.calm = true) (hN : X.N.Nodup) (h1 : DF X ρ a b1 ρ1) (h2 : DF X ρ1 b b2 ρ2) (hij : i ≠ j)
    (hr1 : ρ2[i]? = some s1 := by rfl) (hr2 : ρ2[j]? = some s2 := by rfl) (hi : X.N[i]? = some x := by rfl) (hj : X.N[j]? = some y := by rfl)
    (lx : Loc X.env.scope x := by first | exact Or.inl rfl | exact Or.inr rfl) (ly : Loc X.env.scope y := by first | exact Or.inl rfl | exact Or.inr rfl)
    (fx : X.fn x = true ∨ X.env.scope.names.lookup x = some .local := by first | exact .inl rfl | exact .inr rfl) (fy : X.fn y = true ∨ X.env.scope.names.lookup y = some .local := by first | exact .inl rfl | exact .inr rfl)
    (hs : swapsWithSole [.Tuple [.Name x px, .Name y py] kt pt] (.Tuple [a, b] k2 pt2) pos.line X.env = pure false := by rfl) (hw : swappedStores [.Tuple [.Name x px, .Name y py] kt pt] (.Tuple [a, b] k2 pt2) X.env = pure none := by rfl)
    (hs1 : starEach [a, b] X.env = (false, eval a X.env) :: starEach [b] X.env := by rfl) (hs2 : starEach [b] X.env = (false, eval b X.env) :: starEach [] X.env := by rfl) :
    DS X ρ (.Assign [.Tuple [.Name x px, .Name y py] kt pt] (.Tuple [a, b] k2 pt2) pos) (.nx ((ρ2.set i (.o b1)).set j (.o b2))) := fun F Z B H σ D k q =>
  ⟨_, ps_asg (pe_tup (pa_cons pe_s (pa_cons pe_s pa_nil hs2) hs1)) (pg_tup (n := 2) hc (pgs_cons (pg_name hN hi lx fx) (pgs_cons (pg_name hN hj ly fy) pgs_nil))) hs hw,
    h1 F Z B H σ _ k fun p1 B1 H1 k1 x1 n1 ob1 => by
    obtain ⟨o1, hp1⟩ := ob1.live p1 List.mem_cons_self
    refine h2 _ _ B1 H1 σ _ (k1.lock n1 hp1) fun p2 B2 H2 k2' x2 n2 ob2 => ?_
    obtain ⟨o2, hp2⟩ := ob2.live p2 List.mem_cons_self
    obtain ⟨k5, n5, h5⟩ := k2'.unlock n1.f n1.z
    obtain ⟨n6, ne⟩ := n2.less
    refine ⟨by show 2 ≤ sizeLine; decide, fun t ht => ?_⟩
    have k7 := k5.loose ht (.tup [.ref p1, .ref p2])
    have keep : ∀ b, b ≠ t → upd H2 t (.tup [.ref p1, .ref p2]) b = H2 b := fun b hb => upd_ne hb
    have t1 : p1 ≠ t := fun e => by rw [← e, h5] at ht; cases ht
    have t2' : p2 ≠ t := fun e => by rw [← e, hp2] at ht; cases ht
    have n7 : New X.K F Z B2 (upd H2 t (.tup [.ref p1, .ref p2])) σ ρ2 p1 := n5.other (B' := B2) k5 (fun b hb ⟨o, ho⟩ => keep b fun e => by rw [e, ht] at ho; cases ho) ⟨_, h5⟩
    have n8 : New X.K F Z B2 (upd H2 t (.tup [.ref p1, .ref p2])) σ ρ2 p2 := n6.other (B' := B2) k5 (fun b hb ⟨o, ho⟩ => keep b fun e => by rw [e, ht] at ho; cases ho) ⟨_, hp2⟩
    have o7 : ObAt X.K B2 (upd H2 t (.tup [.ref p1, .ref p2])) (.ref p1) [p1] b1 := ob1.mono x2 fun a ha => by rw [List.mem_singleton.mp ha, keep p1 t1, h5, hp1]
    have o8 : ObAt X.K B2 (upd H2 t (.tup [.ref p1, .ref p2])) (.ref p2) [p2] b2 := ob2.mono (Sub.refl B2) fun a ha => by rw [List.mem_singleton.mp ha]; exact keep p2 t2'
    refine ⟨t, [.ref p1, .ref p2], rfl, SqT.of upd_same, rfl, _, _, rfl, _, _, rfl, rfl, ?_⟩
    have i1 : i < ρ2.length := (List.getElem?_eq_some_iff.mp hr1).1
    have j1 : j < ρ2.length := (List.getElem?_eq_some_iff.mp hr2).1
    have k8 := k7.take n7 i1 o7
    have n9 := n8.setO (i := i) (v := .ref p1) k7.len o7 (by simpa using ne)
    exact q B2 _ _ (k8.take n9 (by rw [List.length_set]; exact j1) o8) (x1.trans x2)⟩
end
end G

set_option Elab.async false
set_option linter.all false
set_option maxRecDepth 100000
set_option maxHeartbeats 4000000
/- x = {text: .. for .. in ..}, x a local -/
namespace G
open PySem L2 PySem.Spec PyProof.Rows
section
variable {X : Cx}
theorem ps_setDc {i : Nat} {y : Str} {py spos : Pos} {kx vx tg iter : Expr} {ifs : List Expr} {scope : Scope} {own : List (Str × Nat)} {pos : Pos} {wi : TI} {g : TG} {tt : TT} {tk tv : TE} (hc : X.calm = true) (hN : X.N.Nodup) (hy : X.N[i]? = some y) (hyl : X.env.scope.names.lookup y = some .local)
    (hsw : swapsWith (.DictComp kx vx [⟨tg, iter, ifs, 0⟩] scope pos) (some (.Name y py)) spos.line X.env = pure true) (hi : PI X tg iter wi) (ok : BlkOk X.N X.env.scope scope own)
    (hg : Blk X scope fun Y => PG Y tg g) (ht : Blk X scope fun Y => PTs Y ifs tt) (hk : Blk X scope fun Y => PE Y kx tk) (he : Blk X scope fun Y => PE Y vx tv) (hs : ∀ x, foldedSetIterable iter X.env x = pure x := by intro _; rfl) :
    PS X (.Assign [.Name y py] (.DictComp kx vx [⟨tg, iter, ifs, 0⟩] scope pos) spos) (tAsg (tDc wi g tt tk tv (own.map (·.2))) (gName i)) := by
  refine ⟨fun pins s σ H D I h => ?_⟩
  rw [exec_Assign_Name_used _ _ _ _ hsw]
  refine wpAny_bind (wpAny_standAt (wpAny_bind ?_))
  show wpAny _ X.A (do let _ ← comprehension (.DictComp kx vx [⟨tg, iter, ifs, 0⟩] scope pos) scope X.env (firstIterPos [⟨tg, iter, ifs, 0⟩] pos) (newObj (.type "dict") (.dict #[])) false (eval iter X.env) (some (assign (.Name y py) X.env))) _ _ s
  have h : tDc wi g tt tk tv (own.map (·.2)) σ H (fun x H1 => gName i x σ H1 D.nx) := h
  refine wpAny_bind (thn (dc_core (Qf := fun _ s' => SP X pins D .next s') hc hN I hi ok hg ht hk he hs h fun L C s' m H' I' q hn f => ?_) fun _ s' hq => wpAny_pure (wpAny_pure hq))
  show wpAny _ _ (assign (.Name y py) X.env (.ref L)) _ _ _
  refine wpAny_assign_Name (store_ok2 (v := V.ref L) I' hN hy (.inl hyl) rfl (fun s2 I2 ⟨a, sb, ha⟩ => ?_) (.inr hyl))
  obtain ⟨f0, f1, f2, f3, f4, f5⟩ := f
  have haC : C ≠ a := by
    rcases ha with z | z
    · rw [z]; exact f1
    · exact fun e => f4 y a z e.symm
  refine ⟨m, hn.sameBut sb haC, fun h3 sb3 => ?_⟩
  exact ⟨_, H', I2.turned (t' := s2.toks) (fun b o hb e => (sb3.2 b hb).trans e) f0 f1 f3 f4 f5, q⟩
end
section
variable {X : Cx} {ρ ρ' ρ1 ρ2 ρ3 : Env'} {a b c e kx vx tg iter : Expr} {es : List Expr} {p pos : Pos} {xs ys zs : List PyData}
theorem dcT_go {α : Type} {scope : Scope} (l : List α) (G' : α → PyData) (kf : α → Str) (vf : α → PyData) (own : List (Str × Nat)) (hc : X.calm = true) (hN : X.N.Nodup) (ok : BlkOk X.N X.env.scope scope own) (hi : DI X ρ tg iter (l.map G') ρ1) (hv : ∀ j ∈ own.map (·.2), gS ρ1 j = .un)
    (turn : ∀ x ∈ l, ∃ ρt js ρk ρe, (Blk X scope fun Y => DG Y ρ1 tg (G' x) js ρt) ∧ (Blk X scope fun Y => DE Y ρt kx (.d (.str (kf x))) ρk) ∧ (Blk X scope fun Y => DE Y ρk vx (.d (vf x)) ρe) ∧ (∀ j ∈ js, j ∈ own.map (·.2)) ∧ Wk ρe ρ1) (hz : l.length < 1000000) {F : Hp} {Z : Addr → Prop} {B H : Hp} {σ : L2.St} {Q : VK} (k : Ok X.K F Z B H σ ρ) (q : ∀ p B' H', Ok X.K F Z B' H' σ ρ1 → Sub B B' → New X.K F Z B' H' σ ρ1 p → ObAt X.K B' H' (.ref p) [p] (.dk (tabL (l.map fun x => (kf x, vf x)))) → Q (.ref p) H') :
    tDc (sI X tg iter) (bG X scope tg) tYes (bE X scope kx) (bE X scope vx) (own.map (·.2)) σ H Q := by
    refine hi F Z B H σ _ k fun J n Gd Y B1 H1 k1 x1 hn W hG hY D hD => ?_
    rw [List.length_map] at hn
    subst hn
    generalize hvs : own.map (·.2) = vs at hv turn ⊢
    have wu := wipeE_wk hv
    have kw := (k1.wipe vs).weak wu
    obtain ⟨frD, _, frZ⟩ := k1.fresh hD
    refine ⟨fun i m H' => m = l.length - i ∧ i ≤ l.length ∧ ∃ B', Ok X.K F Z B' H' (wipe σ vs) ρ1 ∧ Sub B1 B' ∧ New X.K F Z B' H' (wipe σ vs) ρ1 D ∧ ObAt X.K B' H' (.ref D) [D] (.dk (tabL ((l.take i).map fun x => (kf x, vf x)))), ⟨l.length, by simp, Nat.zero_le _, B1, kw.loose hD _, Sub.refl B1, kw.laid hD _, .dk upd_same .nil⟩, ?_⟩
    rintro i m H' ⟨rfl, hle, B', k', y, nw, ob⟩
    by_cases hlt : i < l.length
    · refine .inr ⟨W.goes i H' hlt (hG B' H' y k'.exB), fun H' => ∃ B', Ok X.K F Z B' H' (wipe σ vs) ρ1 ∧ Sub B1 B' ∧ New X.K F Z B' H' (wipe σ vs) ρ1 D ∧ ObAt X.K B' H' (.ref D) [D] (.dk (tabL ((l.take (i + 1)).map fun x => (kf x, vf x)))), fun H' h => ⟨l.length - (i + 1), by omega, rfl, hlt, h⟩, ?_⟩
      intro v H2 hv'
      have hv' := W.yields i H' v H2 hlt (hG B' H' y k'.exB) hv'
      cases ob with
      | @dk _ r _ d1 d5 =>
      obtain ⟨B2, x, hx, k2, y2, w⟩ := hY _ _ B' H' (wipe σ vs) ρ1 i v H2 (k'.lock nw d1) y hlt hv'
      have hli : l[i]? = some l[i] := List.getElem?_eq_getElem hlt
      rw [List.getElem?_map, hli] at hx
      cases hx
      obtain ⟨ρt, js, ρk, ρe, t2, t3, t4, t1, t5⟩ := turn l[i] (List.getElem_mem hlt)
      intro s0 H0 C0 cl0 fp0
      refine t2 s0 H0 C0 cl0 fp0 _ _ B2 H2 (wipe σ vs) v _ k2 w fun B3 H3 σ3 k3 y3 wp => ?_
      have e3 : wipe σ3 vs = wipe σ vs := wipe_wipe (wp vs t1)
      refine ⟨by rw [e3], ?_⟩
      unfold tYes
      dsimp only
      rw [if_pos rfl]
      intro s1 H1' C1 cl1 fp1
      refine t3 s1 H1' C1 cl1 fp1 _ _ B3 H3 σ3 _ k3 fun vk B4 H4 k4 y4 wk => ?_
      intro s2 H2' C2 cl2 fp2
      refine t4 s2 H2' C2 cl2 fp2 _ _ B4 H4 σ3 _ k4 fun vz B5 H5 k5 y5 wz => ?_
      have k5' := ((k5.weak t5).wipe vs).weak wu
      rw [e3] at k5'
      obtain ⟨k6, n6, h6⟩ := k5'.unlock frD frZ
      have yy : Sub B' B5 := ((y2.trans y3).trans y4).trans y5
      have dk : Dp X.K B4 vk (.str (kf l[i])) := wk
      cases dk
      have d5' := d5.mono yy
      refine ⟨r, .inr (kf l[i]), rfl, h6, ?_, ?_⟩
      · rw [d5.length]
        have h1 := tabL_len ((l.take i).map fun x => (kf x, vf x))
        rw [List.length_map, List.length_take] at h1
        have z : (1000000 : Nat) ≤ sizeLine := by decide
        omega
      · refine ⟨B5, k6.poke n6, y.trans yy, n6.poke k6, ?_⟩
        rw [List.take_add_one, hli, List.map_append]
        show ObAt X.K B5 _ _ _ (.dk (tabL (_ ++ [(kf l[i], vf l[i])])))
        rw [tabL_snoc]
        exact .dk upd_same (d5'.put wz)
    · have e : i = l.length := by omega
      subst e
      have dn0 := ob
      cases ob with
      | @dk _ r _ d1 d5 =>
      obtain ⟨k6, n6, h6⟩ := (Ok.merge k1 (k'.lock nw d1) y (mrg_un rfl hv)).unlock frD frZ
      rw [List.take_length] at dn0
      exact .inl ⟨W.stops H' (hG B' H' y k'.exB), q D B' H' k6 (x1.trans y) n6 dn0⟩
theorem ds_setDcT {i : Nat} {y : Str} {py spos : Pos} {s0 : Sl} {α : Type} {scope : Scope} (l : List α) (G' : α → PyData) (kf : α → Str) (vf : α → PyData) (own : List (Str × Nat)) (hc : X.calm = true) (hN : X.N.Nodup) (ok : BlkOk X.N X.env.scope scope own) (hi : DI X ρ tg iter (l.map G') ρ1) (hv : ∀ j ∈ own.map (·.2), gS ρ1 j = .un)
    (turn : ∀ x ∈ l, ∃ ρt js ρk ρe, (Blk X scope fun Y => DG Y ρ1 tg (G' x) js ρt) ∧ (Blk X scope fun Y => DE Y ρt kx (.d (.str (kf x))) ρk) ∧ (Blk X scope fun Y => DE Y ρk vx (.d (vf x)) ρe) ∧ (∀ j ∈ js, j ∈ own.map (·.2)) ∧ Wk ρe ρ1) (hz : l.length < 1000000)
    (hsw : swapsWith (.DictComp kx vx [⟨tg, iter, [], 0⟩] scope pos) (some (.Name y py)) spos.line X.env = pure true := by rfl)
    (hr : ρ1[i]? = some s0 := by rfl) (hy : X.N[i]? = some y := by rfl) (hyl : X.env.scope.names.lookup y = some .local := by rfl) (hs : ∀ x, foldedSetIterable iter X.env x = pure x := by intro _; rfl) :
    DS X ρ (.Assign [.Name y py] (.DictComp kx vx [⟨tg, iter, [], 0⟩] scope pos) spos) (.nx (ρ1.set i (.o (.dk (tabL (l.map fun x => (kf x, vf x))))))) := fun F Z B H σ D k q =>
  ⟨_, ps_setDc (g := bG X scope tg) (tt := tYes) (tk := bE X scope kx) (tv := bE X scope vx) hc hN hy hyl hsw pi_s ok pg_b (fun _ _ _ _ _ => pts_nil) pe_b pe_b hs, dcT_go l G' kf vf own hc hN ok hi hv turn hz k fun p B' H' k' x n ob => q B' H' _ (k'.take n (List.getElem?_eq_some_iff.mp hr).1 ob) x⟩
end
end G

set_option Elab.async false
set_option linter.all false
set_option maxRecDepth 100000
set_option maxHeartbeats 4000000
namespace G
open PySem L2 PySem.Spec PyProof.Rows
theorem scOT : FnScope nOT ["types"] (defScope s_each_once) := ⟨rfl, rfl, rfl, by decide +kernel, rfl, by decide +kernel, by decide +kernel⟩
section
variable {P : Program} {w : World} {K : PySem.W.Frag} {mg : Str → Option Value} {base : Heap}
theorem ok_ot {f : Addr} {fd : FuncData} (D : Df K mg "each_once" s_each_once f fd ["types"]) (T : Bt mg) : FnG P w K mg base 1 f fd ["types"] (spP K psOT) := by
  refine fnP_of D.fn scOT (fun ds d ⟨_, _, _, e, _⟩ => by rw [e]; rfl) ?_
  rintro cdv A outer s H E ds d hg hr ⟨ks, hk, lk, rfl, rfl⟩
  have hu : (A.deeper (envOfC "each_once" (defScope s_each_once) s.heap.objs.size f cdv)).units + 100 < cLine := by have := hr.un; omega
  have z1 : (1000 : Nat) ≤ sizeLine := by decide
  have sm : ∀ k ∈ ks, Sm k := fun k h => (hk k h).1
  have lo := onceT_len ks
  refine ⟨[.d (.list (ks.map NestedKey.data)), .o (.dk (tabL (ks.map fun k => (txt k, k.data)))), .un, .un], ?_⟩
  refine db_cons (ds_setF (i := 1) scOT.nd (df_dcT ks NestedKey.data txt NestedKey.data [("one", 2)] rfl scOT.nd (blkOk_by (N := nOT) (sc := defScope s_each_once) (by decide +kernel)) (di_list (nv 0)) (by (intro j hj; first | (cases hj with | head => rfl | tail _ h => cases h) | (cases hj with | head => rfl | tail _ h => cases h with | head => rfl | tail _ h => cases h) | (cases hj with | head => rfl | tail _ h => cases h with | head => rfl | tail _ h => cases h with | head => rfl | tail _ h => cases h))) (fun k h => ?_) (by omega))) ?_
  · have q := (hk k h).2
    exact ⟨_, _, _, _, fun _ _ _ _ _ => dg_name (i := 2) scOT.nd, fun _ _ _ _ _ => de_repr hg (by show _ + 100 < cLine; exact hu) q.1 q.2.1 q.2.2 T.repr_ (nv 2), fun _ _ _ _ _ => nv 2, by simp, by first | exact G.Wk.refl _ | (repeat (first | exact G.Wk.nil | apply G.Wk.cons | apply G.Wk.drop))⟩
  refine db_at [.d (.list (ks.map NestedKey.data)), .o (.dk (tabL (ks.map fun k => (txt k, k.data)))), .un, .un] rfl ?_
  have nd := tab_nodup sm
  have h64 : ((ks.foldl addK []).map txt).length < 64 := by
    rw [List.length_map]
    have e : (onceT ks).length = (ks.foldl addK []).length := (List.mergeSort_perm _ _).length_eq
    omega
  have et := tab_once sm
  refine db_one (ds_ret (de_is (de_tupL (xs := (onceT ks).map NestedKey.data) .d T.tuple_ (DL.de (dl_mapA (onceT ks) (fun k => .str (txt k)) NestedKey.data [("text", 3)] rfl scOT.nd (blkOk_by (N := nOT) (sc := defScope s_each_once) (by decide +kernel)) (by
    have e : (onceT ks).map (fun k => PyData.str (txt k)) = ((onceT ks).map txt).map .str := by rw [List.map_map]; rfl
    rw [e]
    exact di_list (DL.de (dl_sortTx (i := 1) (kvs := tabL (ks.map fun k => (txt k, k.data))) (ks := (ks.foldl addK []).map txt) rfl (by rw [et, List.map_map, List.map_map]; rfl) h64 (fun ys hp hs => sortedS_uniq hp hs) T.sorted_ (ow 1)))) (by (intro j hj; first | (cases hj with | head => rfl | tail _ h => cases h) | (cases hj with | head => rfl | tail _ h => cases h with | head => rfl | tail _ h => cases h) | (cases hj with | head => rfl | tail _ h => cases h with | head => rfl | tail _ h => cases h with | head => rfl | tail _ h => cases h))) (fun k h => ?_) (by omega)))) (tupK_data _).symm))
  · exact ⟨_, _, _, fun _ _ _ _ _ => dg_name (i := 3) scOT.nd, fun _ _ _ _ _ => de_dkAt (i := 1) (kvs := tabL (ks.map fun k => (txt k, k.data))) (t := txt k) (d := k.data) (by show _ + 100 < cLine; exact hu) (by rw [et]; exact nd) (by rw [et]; exact List.mem_map.mpr ⟨k, (List.mergeSort_perm _ _).mem_iff.mp h, rfl⟩) (ow 1) (nv 3), by simp, by first | exact G.Wk.refl _ | (repeat (first | exact G.Wk.nil | apply G.Wk.cons | apply G.Wk.drop))⟩
end
end G

set_option Elab.async false
set_option linter.all false
set_option maxRecDepth 100000
set_option maxHeartbeats 4000000
/- types of rows, walked -/
namespace G
open PySem L2 PySem.Spec PyProof.Rows
theorem scEye : FnScope nEye ["web", "row"] (defScope s_row_eye) := ⟨rfl, rfl, rfl, by decide +kernel, rfl, by decide +kernel, by decide +kernel⟩
theorem scRT : FnScope nRT ["web", "row", "r"] (defScope s_rank_type) := ⟨rfl, rfl, rfl, by decide +kernel, rfl, by decide +kernel, by decide +kernel⟩
theorem scAK : FnScope nAK ["one", "a", "other", "b", "r"] (defScope s_are_kept) := ⟨rfl, rfl, rfl, by decide +kernel, rfl, by decide +kernel, by decide +kernel⟩
section
variable {P : Program} {w : World} {K : PySem.W.Frag} {mg : Str → Option Value} {base : Heap}
theorem ok_eye {f : Addr} {fd : FuncData} (D : Df K mg "row_eye" s_row_eye f fd ["web", "row"]) (T : Bt mg) : FnG P w K mg base 1 f fd ["web", "row"] (spP K psEye) := by
  refine fnP_of D.fn scEye (fun ds d ⟨_, _, _, _, _, e, _⟩ => by rw [e]; rfl) ?_
  rintro cdv A outer s H E ds d hg hr ⟨W, a, hW, ha, la, rfl, rfl⟩
  have hu : (A.deeper (envOfC "row_eye" (defScope s_row_eye) s.heap.objs.size f cdv)).units + 65 < cLine := by have := hr.un; omega
  have z1 : (1000 : Nat) ≤ sizeLine := by decide
  generalize hps : (fun i j => decide (i < j) && decide (gAt a i = gAt a j)) = ps
  generalize hpl : (fun i j => decide ((gAt a i, gAt a j) ∈ W.arr)) = pl
  have ess : pairsOf ps a.length a.length = sameL a := by rw [← hps]; rfl
  have esl : pairsOf pl a.length a.length = ledL W a := by rw [← hpl]; rfl
  refine ⟨[.d (wbD W), .d (.tuple (a.map .int)), .d (.tuple (W.col.map .int)), .d (.tuple ((W.arr.map pK).map NestedKey.data)), .o (.lst (pD (sameL a))), .o (.lst (pD (ledL W a))), .un, .un, .un, .un], ?_⟩
  refine db_cons (ds_asg (d := .tuple [.tuple (W.col.map .int), .tuple ((W.arr.map pK).map NestedKey.data)]) (js := [2, 3]) (ρ1 := [.d (wbD W), .d (.tuple (a.map .int)), .un, .un, .un, .un, .un, .un, .un, .un]) (de_tup (da_cons (de_w1 (W := W) (nv 0)) (da_cons (de_w2 (W := W) (nv 0)) da_nil))) (dg_tup rfl (dgs_cons (dg_name (i := 2) scEye.nd) (dgs_cons (dg_name (i := 3) scEye.nd) dgs_nil)))) ?_
  refine db_at [.d (wbD W), .d (.tuple (a.map .int)), .d (.tuple (W.col.map .int)), .d (.tuple ((W.arr.map pK).map NestedKey.data)), .un, .un, .un, .un, .un, .un] rfl ?_
  refine db_cons (ds_par2L (i := 4) (j := 5) rfl scEye.nd (dl_lst da_nil) (dl_lst da_nil)) ?_
  refine db_at [.d (wbD W), .d (.tuple (a.map .int)), .d (.tuple (W.col.map .int)), .d (.tuple ((W.arr.map pK).map NestedKey.data)), .o (.lst (pD (pairsOf ps 0 a.length))), .o (.lst (pD (pairsOf pl 0 a.length))), .un, .un, .un, .un] rfl ?_
  refine db_cons (ds_for PassesOwn.never rfl (di_enumT (xs := a.map .int) T.enumerate_ (nv 1)) (fun i => [.d (wbD W), .d (.tuple (a.map .int)), .d (.tuple (W.col.map .int)), .d (.tuple ((W.arr.map pK).map NestedKey.data)), .o (.lst (pD (pairsOf ps i a.length))), .o (.lst (pD (pairsOf pl i a.length))), .un, .un, .un, .un]) (Wk.refl _) (fun i z hz => ?_) (ρ2 := [.d (wbD W), .d (.tuple (a.map .int)), .d (.tuple (W.col.map .int)), .d (.tuple ((W.arr.map pK).map NestedKey.data)), .o (.lst (pD (sameL a))), .o (.lst (pD (ledL W a))), .un, .un, .un, .un]) (by rw [pairsD_len, List.length_map, ess, esl])) ?_
  · obtain ⟨hi, rfl⟩ := pairs_get hz
    have l1 := pairsOf_len ps a.length i
    have l2 := pairsOf_len pl a.length i
    have i20 : i * a.length ≤ 20 * 20 := Nat.mul_le_mul (by omega) la
    refine ⟨_, _, dg_tup rfl (dgs_cons (dg_name (i := 6) scEye.nd) (dgs_cons (dg_name (i := 7) scEye.nd) dgs_nil)), ?_⟩
    rw [pairsOf_succ, pairsOf_succ]
    generalize pairsOf ps i a.length = S at l1 ⊢
    generalize pairsOf pl i a.length = L at l2 ⊢
    refine db_nx (ds_for PassesOwn.never rfl (di_enumT (xs := a.map .int) T.enumerate_ (nv 1)) (fun j => [.d (wbD W), .d (.tuple (a.map .int)), .d (.tuple (W.col.map .int)), .d (.tuple ((W.arr.map pK).map NestedKey.data)), .o (.lst (pD (S ++ prow ps j i))), .o (.lst (pD (L ++ prow pl j i))), .d (.int i), .d (.int (gAt a i)), .un, .un]) (by show Wk [.d (wbD W), .d (.tuple (a.map .int)), .d (.tuple (W.col.map .int)), .d (.tuple ((W.arr.map pK).map NestedKey.data)), .o (.lst (pD (S))), .o (.lst (pD (L))), .d (.int i), .d (.int (gAt a i)), .un, .un] [.d (wbD W), .d (.tuple (a.map .int)), .d (.tuple (W.col.map .int)), .d (.tuple ((W.arr.map pK).map NestedKey.data)), .o (.lst (pD (S ++ []))), .o (.lst (pD (L ++ []))), .d (.int i), .d (.int (gAt a i)), .un, .un]; rw [List.append_nil, List.append_nil]; exact Wk.refl _) (fun j z hz => ?_) (ρ2 := [.d (wbD W), .d (.tuple (a.map .int)), .d (.tuple (W.col.map .int)), .d (.tuple ((W.arr.map pK).map NestedKey.data)), .o (.lst (pD (S ++ prow ps a.length i))), .o (.lst (pD (L ++ prow pl a.length i))), .d (.int i), .d (.int (gAt a i)), .un, .un]) (by rw [pairsD_len, List.length_map])) (by first | exact G.Wk.refl _ | (repeat (first | exact G.Wk.nil | apply G.Wk.cons | apply G.Wk.drop)))
    obtain ⟨hj, rfl⟩ := pairs_get hz
    have l3 := prow_len ps j i
    have l4 := prow_len pl j i
    rw [prow_succ, prow_succ]
    generalize prow ps j i = S2 at l3 ⊢
    generalize prow pl j i = L2 at l4 ⊢
    refine ⟨_, _, dg_tup rfl (dgs_cons (dg_name (i := 8) scEye.nd) (dgs_cons (dg_name (i := 9) scEye.nd) dgs_nil)), ?_⟩
    refine db_at [.d (wbD W), .d (.tuple (a.map .int)), .d (.tuple (W.col.map .int)), .d (.tuple ((W.arr.map pK).map NestedKey.data)), .o (.lst (pD (S ++ S2))), .o (.lst (pD (L ++ L2))), .d (.int i), .d (.int (gAt a i)), .d (.int j), .d (.int (gAt a j))] rfl ?_
    refine db_cons (ρ1 := [.d (wbD W), .d (.tuple (a.map .int)), .d (.tuple (W.col.map .int)), .d (.tuple ((W.arr.map pK).map NestedKey.data)), .o (.lst (pD (S ++ (S2 ++ (if ps i j = true then [((i : Int), (j : Int))] else []))))), .o (.lst (pD (L ++ L2))), .d (.int i), .d (.int (gAt a i)), .d (.int j), .d (.int (gAt a j))]) ?_ (db_nx (ρ1 := [.d (wbD W), .d (.tuple (a.map .int)), .d (.tuple (W.col.map .int)), .d (.tuple ((W.arr.map pK).map NestedKey.data)), .o (.lst (pD (S ++ (S2 ++ (if ps i j = true then [((i : Int), (j : Int))] else []))))), .o (.lst (pD (L ++ (L2 ++ (if pl i j = true then [((i : Int), (j : Int))] else []))))), .d (.int i), .d (.int (gAt a i)), .d (.int j), .d (.int (gAt a j))]) ?_ (by first | exact G.Wk.refl _ | (repeat (first | exact G.Wk.nil | apply G.Wk.cons | apply G.Wk.drop))))
    · have ct : ps i j = (decide ((i : Int) < (j : Int)) && decide (gAt a i = gAt a j)) := by
        rw [← hps]
        show (decide (i < j) && _) = _
        rw [show decide (i < j) = decide ((i : Int) < (j : Int)) from decide_eq_decide.mpr (by omega)]
      by_cases c : ps i j = true
      · rw [if_pos c]
        refine ds_ifT (dt_is (DW.dt (dw_and (dt_lt (nv 6) (nv 8)) (fun _ => dw_and1 (dt_eqI (nv 7) (nv 9))) (fun _ => rfl))) (by rw [← ct, c])) ?_
        refine db_weak (db_one (ds_append (i := 4) (xs := pD (S ++ S2)) (y := .tuple [.int i, .int j]) (by rw [pD_len, List.length_append]; omega) (ow 4) (de_tup (da_cons (nv 6) (da_cons (nv 8) da_nil))))) ?_
        rw [← List.append_assoc, pD_app (S ++ S2)]
        exact Wk.refl _
      · rw [if_neg c, List.append_nil]
        exact ds_ifF (dt_is (DW.dt (dw_and (dt_lt (nv 6) (nv 8)) (fun _ => dw_and1 (dt_eqI (nv 7) (nv 9))) (fun _ => rfl))) (by rw [← ct]; exact bool_no c)) db_nil
    · have ct : pl i j = decide ((gAt a i, gAt a j) ∈ W.arr) := by rw [← hpl]
      by_cases c : pl i j = true
      · rw [if_pos c]
        refine ds_ifT (dt_is (dt_inT (d := (pK (gAt a i, gAt a j)).data) hu (pl_shaped (pK_pl _) (Nat.le_trans (pK_depth _) (by decide))) (arr_shaped W.arr) (de_tup (xs := [.int (gAt a i), .int (gAt a j)]) (da_cons (nv 7) (da_cons (nv 9) da_nil))) (nv 3)) (by rw [in_arr, ← ct, c])) ?_
        refine db_weak (db_one (ds_append (i := 5) (xs := pD (L ++ L2)) (y := .tuple [.int i, .int j]) (by rw [pD_len, List.length_append]; omega) (ow 5) (de_tup (da_cons (nv 6) (da_cons (nv 8) da_nil))))) ?_
        rw [← List.append_assoc L, pD_app (L ++ L2)]
        exact Wk.refl _
      · rw [if_neg c, List.append_nil L2]
        exact ds_ifF (dt_is (dt_inT (d := (pK (gAt a i, gAt a j)).data) hu (pl_shaped (pK_pl _) (Nat.le_trans (pK_depth _) (by decide))) (arr_shaped W.arr) (de_tup (xs := [.int (gAt a i), .int (gAt a j)]) (da_cons (nv 7) (da_cons (nv 9) da_nil))) (nv 3)) (by rw [in_arr, ← ct]; exact bool_no c)) db_nil
  · refine db_one (ds_ret (de_is (de_tup (xs := [.tuple ((a.map (colAt W)).map .int), .tuple (pD (sameL a)), .tuple (pD (ledL W a))]) (da_cons (de_tupL .d T.tuple_ (DL.de (dl_is ?_ (dl_mapA a .int (fun x => .int (colAt W x)) [("x", 7)] rfl scEye.nd (blkOk_by (N := nEye) (sc := defScope s_row_eye) (by decide +kernel)) (di_tup (nv 1)) (by (intro j hj; first | (cases hj with | head => rfl | tail _ h => cases h) | (cases hj with | head => rfl | tail _ h => cases h with | head => rfl | tail _ h => cases h) | (cases hj with | head => rfl | tail _ h => cases h with | head => rfl | tail _ h => cases h with | head => rfl | tail _ h => cases h))) (fun x hx => ?_) (by omega))))) (da_cons (de_tupL (.o (i := 4) rfl) T.tuple_ (ow 4)) (da_cons (de_tupL (.o (i := 5) rfl) T.tuple_ (ow 5)) da_nil)))) (eye_data W a).symm))
    · rw [List.map_map]; rfl
    · exact ⟨_, _, _, fun _ _ _ _ _ => dg_name (i := 7) scEye.nd, fun _ _ _ _ _ => de_ixT (at_col hW (ha x hx)) (nv 2) (nv 7), by simp, by first | exact G.Wk.refl _ | (repeat (first | exact G.Wk.nil | apply G.Wk.cons | apply G.Wk.drop))⟩
theorem ok_rt {f f1 f2 : Addr} {fd fd1 fd2 : FuncData} (D : Df K mg "rank_type" s_rank_type f fd ["web", "row", "r"]) (D1 : Df K mg "row_eye" s_row_eye f1 fd1 ["web", "row"]) (D2 : Df K mg "each_once" s_each_once f2 fd2 ["types"]) (T : Bt mg) : ∀ R : Nat, FnG P w K mg base (R + 2) f fd ["web", "row", "r"] (spP K (psRT R))
  | 0 => by
    have gE := ok_eye (P := P) (w := w) (base := base) D1 T
    refine fnP_of D.fn scRT (fun ds d ⟨_, _, _, _, _, _, _, _, e, _⟩ => by rw [e]; rfl) ?_
    rintro cdv A outer s H E ds d hg hr ⟨W, a, r, hR, hW, ha, la, hb, rfl, rfl⟩
    obtain rfl : r = 0 := by omega
    refine ⟨[.d (wbD W), .d (.tuple (a.map .int)), .d (.int (0 : Nat)), .un], db_ifT (dt_eqIt (i := ((0 : Nat) : Int)) rfl (nv 2) de_int) (db_one (ds_ret (de_is (de_tup (xs := [(eyeK W a).data, .tuple []]) (da_cons (de_callP gE hg (hr.mono (by omega)) D1.mg D1.kp D1.bd (ds := [wbD W, .tuple (a.map .int)]) (d := (eyeK W a).data) ⟨W, a, hW.ok, ha, by omega, rfl, rfl⟩ (da_cons (nv 0) (da_cons (nv 1) da_nil))) (da_cons (de_tup (xs := []) da_nil) da_nil))) ?_)))⟩
    unfold tyR
    rw [two_data, tupK_data]; rfl
  | R + 1 => by
    have gE := ok_eye (P := P) (w := w) (base := base) D1 T
    have gO := ok_ot (P := P) (w := w) (base := base) D2 T
    have ih := ok_rt D D1 D2 T R
    refine fnP_of D.fn scRT (fun ds d ⟨_, _, _, _, _, _, _, _, e, _⟩ => by rw [e]; rfl) ?_
    rintro cdv A outer s H E ds d hg hr ⟨W, a, r, hR, hW, ha, la, hb, rfl, rfl⟩
    have n9 := hW.n9
    have z1 : (1000 : Nat) ≤ sizeLine := by decide
    cases r with
    | zero =>
      refine ⟨[.d (wbD W), .d (.tuple (a.map .int)), .d (.int (0 : Nat)), .un], db_ifT (dt_eqIt (i := ((0 : Nat) : Int)) rfl (nv 2) de_int) (db_one (ds_ret (de_is (de_tup (xs := [(eyeK W a).data, .tuple []]) (da_cons (de_callP gE hg (hr.mono (by omega)) D1.mg D1.kp D1.bd (ds := [wbD W, .tuple (a.map .int)]) (d := (eyeK W a).data) ⟨W, a, hW.ok, ha, by omega, rfl, rfl⟩ (da_cons (nv 0) (da_cons (nv 1) da_nil))) (da_cons (de_tup (xs := []) da_nil) da_nil))) ?_)))⟩
      unfold tyR
      rw [two_data, tupK_data]; rfl
    | succ r =>
      have hb' : bR W.n r ≤ sizeLine := by
        have e : bR W.n (r + 1) = 907 + W.n * (bR W.n r + 2) := rfl
        by_cases h0 : W.n = 0
        · rw [h0]
          have : ∀ r, bR 0 r ≤ 907 := fun r => by cases r <;> simp [bR]
          have := this r
          omega
        · have := Nat.le_mul_of_pos_left (bR W.n r + 2) (Nat.pos_of_ne_zero h0)
          omega
      have hks : ∀ k ∈ (names W.n).map (fun x => tyR W r (a ++ [x])), Sm k ∧ Sh k.data := fun k hk => by
        obtain ⟨x, hx, rfl⟩ := List.mem_map.mp hk
        have l2 : (a ++ [x]).length + r ≤ 6 := by rw [List.length_append]; simp only [List.length_cons, List.length_nil]; omega
        exact ⟨sm_tyR hW r _ (by omega), sh_tyR hW (Nat.le_refl _) l2 hb'⟩
      refine ⟨[.d (wbD W), .d (.tuple (a.map .int)), .d (.int ((r + 1 : Nat) : Int)), .un], db_ifF (dt_eqIf (i := ((r + 1 : Nat) : Int)) (by omega) (nv 2) de_int) (db_one (ds_ret (de_is (de_tup (xs := [(eyeK W a).data, (NestedKey.tup (onceT ((names W.n).map fun x => tyR W r (a ++ [x])))).data]) (da_cons (de_callP gE hg (hr.mono (by omega)) D1.mg D1.kp D1.bd (ds := [wbD W, .tuple (a.map .int)]) (d := (eyeK W a).data) ⟨W, a, hW.ok, ha, by omega, rfl, rfl⟩ (da_cons (nv 0) (da_cons (nv 1) da_nil))) (da_cons (de_callP gO hg (hr.mono (by omega)) D2.mg D2.kp D2.bd (ds := [.list (((names W.n).map fun x => tyR W r (a ++ [x])).map NestedKey.data)]) (d := (NestedKey.tup (onceT ((names W.n).map fun x => tyR W r (a ++ [x])))).data) ⟨_, hks, by rw [List.length_map, names_len]; omega, rfl, rfl⟩ (da_cons (DL.de (dl_is ?_ (dl_mapA (names W.n) .int (fun x => (tyR W r (a ++ [x])).data) [("x", 3)] rfl scRT.nd (blkOk_by (N := nRT) (sc := defScope s_rank_type) (by decide +kernel)) (di_names T.range_ (by omega) (de_w0 (W := W) (nv 0))) (by (intro j hj; first | (cases hj with | head => rfl | tail _ h => cases h) | (cases hj with | head => rfl | tail _ h => cases h with | head => rfl | tail _ h => cases h) | (cases hj with | head => rfl | tail _ h => cases h with | head => rfl | tail _ h => cases h with | head => rfl | tail _ h => cases h))) (fun x hx => ?_) (by rw [names_len]; omega)))) da_nil)) da_nil))) ?_)))⟩
      · rw [List.map_map]; rfl
      · refine ⟨_, _, _, fun _ _ _ _ _ => dg_name (i := 3) scRT.nd, fun _ _ _ _ _ => (de_callP ih hg (hr.mono (by omega)) D.mg D.kp D.bd (ds := [wbD W, .tuple ((a ++ [x]).map .int), .int r]) (d := (tyR W r (a ++ [x])).data) ⟨W, a ++ [x], r, by omega, hW, fun y hy => ?_, ?_, hb', rfl, rfl⟩ (da_cons (nv 0) (da_cons (de_is (de_tup (xs := a.map .int ++ [.int x]) (da_star (nv 1) (da_cons (nv 3) da_nil)) (by rw [List.length_append, List.length_map]; simp only [List.length_cons, List.length_nil]; omega)) (by rw [List.map_append]; rfl)) (da_cons (de_is (de_sub (nv 2) de_int) (by congr 1; omega)) da_nil)))), by simp, by first | exact G.Wk.refl _ | (repeat (first | exact G.Wk.nil | apply G.Wk.cons | apply G.Wk.drop))⟩
        · rcases List.mem_append.mp hy with hy | hy
          · exact ha y hy
          · rw [List.mem_singleton.mp hy]; exact hx
        · rw [List.length_append]; simp only [List.length_cons, List.length_nil]; omega
      · exact (two_data _ _).symm
theorem ok_ak {f f1 f2 f3 : Addr} {fd fd1 fd2 fd3 : FuncData} (D : Df K mg "are_kept" s_are_kept f fd ["one", "a", "other", "b", "r"]) (D3 : Df K mg "rank_type" s_rank_type f3 fd3 ["web", "row", "r"]) (D1 : Df K mg "row_eye" s_row_eye f1 fd1 ["web", "row"]) (D2 : Df K mg "each_once" s_each_once f2 fd2 ["types"]) (T : Bt mg) (R : Nat) : FnG P w K mg base (R + 3) f fd ["one", "a", "other", "b", "r"] (spP K (psAK R)) := by
  have gT := ok_rt (P := P) (w := w) (base := base) D3 D1 D2 T R
  refine fnP_of D.fn scAK (fun ds d ⟨_, _, _, _, _, _, _, _, _, _, _, _, _, _, e, _⟩ => by rw [e]; rfl) ?_
  rintro cdv A outer s H E ds d hg hr ⟨W, V, a, b, r, hR, hW, hV, ha, hb, hl, la, h1, h2, rfl, rfl⟩
  have hu : (A.deeper (envOfC "are_kept" (defScope s_are_kept) s.heap.objs.size f cdv)).units + 100 < cLine := by have := hr.un; omega
  have q1 := sh_tyR hW (a := a) (r := r) (Nat.le_refl _) la h1
  have q2 := sh_tyR hV (a := b) (r := r) (Nat.le_refl _) (by omega) h2
  refine ⟨[.d (wbD W), .d (.tuple (a.map .int)), .d (wbD V), .d (.tuple (b.map .int)), .d (.int r)], db_one (ds_ret (de_is (de_cmp op_eq od_eqS (nomark _) (de_repr hg hu q1.1 q1.2.1 q1.2.2 T.repr_ (de_callP gT hg (hr.mono (by omega)) D3.mg D3.kp D3.bd (ds := [wbD W, .tuple (a.map .int), .int r]) (d := (tyR W r a).data) ⟨W, a, r, hR, hW, ha, la, h1, rfl, rfl⟩ (da_cons (nv 0) (da_cons (nv 1) (da_cons (nv 4) da_nil))))) (de_repr hg hu q2.1 q2.2.1 q2.2.2 T.repr_ (de_callP gT hg (hr.mono (by omega)) D3.mg D3.kp D3.bd (ds := [wbD V, .tuple (b.map .int), .int r]) (d := (tyR V r b).data) ⟨V, b, r, hR, hV, hb, by omega, h2, rfl, rfl⟩ (da_cons (nv 2) (da_cons (nv 3) (da_cons (nv 4) da_nil)))))) ?_))⟩
  congr 1
  rw [Bool.eq_iff_iff, decide_eq_true_iff]
  exact shown_ty hW hV hl (by omega)
end
end G

set_option Elab.async false
set_option linter.all false
set_option maxRecDepth 100000
set_option maxHeartbeats 4000000
namespace G
open PySem L2 PySem.Spec PyProof.Rows
theorem scLE : FnScope nLE ["web", "row"] (defScope s__law_eye) := ⟨rfl, rfl, rfl, by decide +kernel, rfl, by decide +kernel, by decide +kernel⟩
section
variable {P : Program} {w : World} {K : PySem.W.Frag} {mg : Str → Option Value} {base : Heap}
theorem ok_le {f : Addr} {fd : FuncData} (D : Df K mg "_law_eye" s__law_eye f fd ["web", "row"]) (T : Bt mg) : FnG P w K mg base 1 f fd ["web", "row"] (spP K psEye) := by
  refine fnP_of D.fn scLE (fun ds d ⟨_, _, _, _, _, e, _⟩ => by rw [e]; rfl) ?_
  rintro cdv A outer s H E ds d hg hr ⟨W, a, hW, ha, la, rfl, rfl⟩
  have hu : (A.deeper (envOfC "_law_eye" (defScope s__law_eye) s.heap.objs.size f cdv)).units + 65 < cLine := by have := hr.un; omega
  have z1 : (1000 : Nat) ≤ sizeLine := by decide
  generalize hps : (fun i j => decide (i < j) && decide (gAt a i = gAt a j)) = ps
  generalize hpl : (fun i j => decide ((gAt a i, gAt a j) ∈ W.arr)) = pl
  have ess : pairsOf ps a.length a.length = sameL a := by rw [← hps]; rfl
  have esl : pairsOf pl a.length a.length = ledL W a := by rw [← hpl]; rfl
  refine ⟨[.d (wbD W), .d (.tuple (a.map .int)), .d (.list ((names a.length).map .int)), .o (.lst (pD (sameL a))), .o (.lst (pD (ledL W a))), .un, .un, .un], ?_⟩
  refine db_cons (ds_setL (i := 2) (xs := (names a.length).map .int) (ρ1 := [.d (wbD W), .d (.tuple (a.map .int)), .un, .un, .un, .un, .un, .un]) scLE.nd (dl_is (by rw [names_D]) (dl_listRg (n := (a.length : Int)) rfl T.list_ T.range_ (by omega) (de_is (de_len (xs := a.map .int) .t T.len_ (nv 1)) (by rw [List.length_map]))))) ?_
  refine db_still (i := 2) (xs := (names a.length).map .int) ?_
  refine db_at [.d (wbD W), .d (.tuple (a.map .int)), .d (.list ((names a.length).map .int)), .un, .un, .un, .un, .un] rfl ?_
  refine db_cons (ds_par2L (i := 3) (j := 4) rfl scLE.nd (dl_lst da_nil) (dl_lst da_nil)) ?_
  refine db_at [.d (wbD W), .d (.tuple (a.map .int)), .d (.list ((names a.length).map .int)), .o (.lst (pD (pairsOf ps 0 a.length))), .o (.lst (pD (pairsOf pl 0 a.length))), .un, .un, .un] rfl ?_
  refine db_cons (ds_for PassesOwn.never rfl (di_list (nv 2)) (fun i => [.d (wbD W), .d (.tuple (a.map .int)), .d (.list ((names a.length).map .int)), .o (.lst (pD (pairsOf ps i a.length))), .o (.lst (pD (pairsOf pl i a.length))), .un, .un, .un]) (Wk.refl _) (fun i z hz => ?_) (ρ2 := [.d (wbD W), .d (.tuple (a.map .int)), .d (.list ((names a.length).map .int)), .o (.lst (pD (sameL a))), .o (.lst (pD (ledL W a))), .un, .un, .un]) (by rw [List.length_map, names_len, ess, esl])) ?_
  · rw [← names_D] at hz
    obtain ⟨hi, rfl⟩ := range_get hz
    have l1 := pairsOf_len ps a.length i
    have l2 := pairsOf_len pl a.length i
    have l3 := prow_len ps a.length i
    have l4 := prow_len pl a.length i
    have i20 : i * a.length ≤ 20 * 20 := Nat.mul_le_mul (by omega) la
    have im : (i : Int) ∈ names a.length := mem_names.mpr ⟨by omega, by omega⟩
    refine ⟨_, _, dg_name (i := 5) scLE.nd, ?_⟩
    rw [pairsOf_succ, pairsOf_succ]
    have gi : atI (a.map PyData.int) (i : Int) = some (.int (gAt a i)) := by
      have := at_g im
      rwa [Int.toNat_natCast] at this
    generalize pairsOf ps i a.length = S at l1 ⊢
    generalize pairsOf pl i a.length = L at l2 ⊢
    refine db_at [.d (wbD W), .d (.tuple (a.map .int)), .d (.list ((names a.length).map .int)), .o (.lst (pD S)), .o (.lst (pD L)), .d (.int (i : Int)), .un, .un] rfl ?_
    refine db_cons (ds_setL (i := 3) (ρ1 := [.d (wbD W), .d (.tuple (a.map .int)), .d (.list ((names a.length).map .int)), .o (.lst (pD S)), .o (.lst (pD L)), .d (.int (i : Int)), .un, .un]) scLE.nd (dl_is (pD_cat S (prow ps a.length i)) (dl_cat (i := 3) (xs := pD S) (ys := pD (prow ps a.length i)) (by rw [pD_len, pD_len]; omega) (ow 3) (dl_is (prow_names ps a.length i) (dl_filtA (names a.length) .int (fun j => .tuple [.int i, .int j]) (fun j => ps i j.toNat) [("j", 6)] rfl scLE.nd (blkOk_by (N := nLE) (sc := defScope s__law_eye) (by decide +kernel)) (di_list (nv 2)) (by (intro j hj; first | (cases hj with | head => rfl | tail _ h => cases h) | (cases hj with | head => rfl | tail _ h => cases h with | head => rfl | tail _ h => cases h) | (cases hj with | head => rfl | tail _ h => cases h with | head => rfl | tail _ h => cases h with | head => rfl | tail _ h => cases h))) (fun j hj => ?_) (by rw [names_len]; omega)))))) ?_
    · have hj0 := mem_names.mp hj
      exact ⟨_, _, _, _, fun _ _ _ _ _ => dg_name (i := 6) scLE.nd, fun _ _ _ _ _ => dt_is (DW.dt (dw_and (dt_lt (nv 5) (nv 6)) (fun _ => dw_and1 (dt_eqI (de_ixT (i := (i : Int)) gi (nv 1) (nv 5)) (de_ixT (i := j) (at_g hj) (nv 1) (nv 6)))) (fun _ => rfl))) (by
        rw [← hps]
        show _ = (decide (i < j.toNat) && _)
        rw [show decide ((i : Int) < j) = decide (i < j.toNat) from decide_eq_decide.mpr (by omega)]), fun _ _ _ _ _ _ => de_tup (da_cons (nv 5) (da_cons (nv 6) da_nil)), by simp, by first | exact G.Wk.refl _ | (repeat (first | exact G.Wk.nil | apply G.Wk.cons | apply G.Wk.drop)), by first | exact G.Wk.refl _ | (repeat (first | exact G.Wk.nil | apply G.Wk.cons | apply G.Wk.drop))⟩
    refine db_at [.d (wbD W), .d (.tuple (a.map .int)), .d (.list ((names a.length).map .int)), .o (.lst (pD (S ++ prow ps a.length i))), .o (.lst (pD L)), .d (.int (i : Int)), .un, .un] rfl ?_
    refine db_nx (ds_setL (i := 4) (ρ1 := [.d (wbD W), .d (.tuple (a.map .int)), .d (.list ((names a.length).map .int)), .o (.lst (pD (S ++ prow ps a.length i))), .o (.lst (pD L)), .d (.int (i : Int)), .un, .un]) scLE.nd (dl_is (pD_cat L (prow pl a.length i)) (dl_cat (i := 4) (xs := pD L) (ys := pD (prow pl a.length i)) (by rw [pD_len, pD_len]; omega) (ow 4) (dl_is (prow_names pl a.length i) (dl_filtA (names a.length) .int (fun j => .tuple [.int i, .int j]) (fun j => pl i j.toNat) [("j", 6)] rfl scLE.nd (blkOk_by (N := nLE) (sc := defScope s__law_eye) (by decide +kernel)) (di_list (nv 2)) (by (intro j hj; first | (cases hj with | head => rfl | tail _ h => cases h) | (cases hj with | head => rfl | tail _ h => cases h with | head => rfl | tail _ h => cases h) | (cases hj with | head => rfl | tail _ h => cases h with | head => rfl | tail _ h => cases h with | head => rfl | tail _ h => cases h))) (fun j hj => ?_) (by rw [names_len]; omega)))))) (by first | exact G.Wk.refl _ | (repeat (first | exact G.Wk.nil | apply G.Wk.cons | apply G.Wk.drop)))
    exact ⟨_, _, _, _, fun _ _ _ _ _ => dg_name (i := 6) scLE.nd, fun _ _ _ _ _ => dt_is (dt_inT (d := (pK (gAt a i, gAt a j.toNat)).data) hu (pl_shaped (pK_pl _) (Nat.le_trans (pK_depth _) (by decide))) (arr_shaped W.arr) (de_tup (xs := [.int (gAt a i), .int (gAt a j.toNat)]) (da_cons (de_ixT (i := (i : Int)) gi (nv 1) (nv 5)) (da_cons (de_ixT (i := j) (at_g hj) (nv 1) (nv 6)) da_nil))) (de_w2 (W := W) (nv 0))) (by rw [in_arr, ← hpl]), fun _ _ _ _ _ _ => de_tup (da_cons (nv 5) (da_cons (nv 6) da_nil)), by simp, by first | exact G.Wk.refl _ | (repeat (first | exact G.Wk.nil | apply G.Wk.cons | apply G.Wk.drop)), by first | exact G.Wk.refl _ | (repeat (first | exact G.Wk.nil | apply G.Wk.cons | apply G.Wk.drop))⟩
  · refine db_one (ds_ret (de_is (de_tup (xs := [.tuple ((a.map (colAt W)).map .int), .tuple (pD (sameL a)), .tuple (pD (ledL W a))]) (da_cons (de_tupL .d T.tuple_ (DL.de (dl_is ?_ (dl_mapA a .int (fun x => .int (colAt W x)) [("x", 7)] rfl scLE.nd (blkOk_by (N := nLE) (sc := defScope s__law_eye) (by decide +kernel)) (di_tup (nv 1)) (by (intro j hj; first | (cases hj with | head => rfl | tail _ h => cases h) | (cases hj with | head => rfl | tail _ h => cases h with | head => rfl | tail _ h => cases h) | (cases hj with | head => rfl | tail _ h => cases h with | head => rfl | tail _ h => cases h with | head => rfl | tail _ h => cases h))) (fun x hx => ?_) (by omega))))) (da_cons (de_tupL (.o (i := 3) rfl) T.tuple_ (ow 3)) (da_cons (de_tupL (.o (i := 4) rfl) T.tuple_ (ow 4)) da_nil)))) (eye_data W a).symm))
    · rw [List.map_map]; rfl
    · exact ⟨_, _, _, fun _ _ _ _ _ => dg_name (i := 7) scLE.nd, fun _ _ _ _ _ => de_ixT (at_col hW (ha x hx)) (de_w1 (W := W) (nv 0)) (nv 7), by simp, by first | exact G.Wk.refl _ | (repeat (first | exact G.Wk.nil | apply G.Wk.cons | apply G.Wk.drop))⟩
end
end G

set_option Elab.async false
set_option linter.all false
set_option maxRecDepth 100000
set_option maxHeartbeats 4000000
namespace G
open PySem L2 PySem.Spec PyProof.Rows
theorem scLO : FnScope nLO ["types"] (defScope sOnce2) := ⟨rfl, rfl, rfl, by decide +kernel, rfl, by decide +kernel, by decide +kernel⟩
theorem scLT : FnScope nRT ["web", "row", "r"] (defScope s__law_type) := ⟨rfl, rfl, rfl, by decide +kernel, rfl, by decide +kernel, by decide +kernel⟩
section
variable {P : Program} {w : World} {K : PySem.W.Frag} {mg : Str → Option Value} {base : Heap}
theorem ok_lon {f : Addr} {fd : FuncData} (D : Df K mg "_law_once" sOnce2 f fd ["types"]) (T : Bt mg) : FnG P w K mg base 1 f fd ["types"] (spP K psOT) := by
  refine fnP_of D.fn scLO (fun ds d ⟨_, _, _, e, _⟩ => by rw [e]; rfl) ?_
  rintro cdv A outer s H E ds d hg hr ⟨ks, hk, lk, rfl, rfl⟩
  have hu : (A.deeper (envOfC "_law_once" (defScope sOnce2) s.heap.objs.size f cdv)).units + 100 < cLine := by have := hr.un; omega
  have z1 : (1000 : Nat) ≤ sizeLine := by decide
  have sm : ∀ k ∈ ks, Sm k := fun k h => (hk k h).1
  have lo := onceT_len ks
  refine ⟨[.d (.list (ks.map NestedKey.data)), .o (.dk (tabL (ks.map fun k => (txt k, k.data)))), .un, .un], ?_⟩
  refine db_cons (ds_setF (i := 1) scLO.nd (df_dictT (l := ks.map fun k => (txt k, k.data)) rfl (DL.ld (dl_is (by rw [List.map_map]; rfl) (dl_mapA ks NestedKey.data (fun k => .tuple [.str (txt k), k.data]) [("one", 2)] rfl scLO.nd (blkOk_by (N := nLO) (sc := defScope sOnce2) (by decide +kernel)) (di_list (nv 0)) (by (intro j hj; first | (cases hj with | head => rfl | tail _ h => cases h) | (cases hj with | head => rfl | tail _ h => cases h with | head => rfl | tail _ h => cases h) | (cases hj with | head => rfl | tail _ h => cases h with | head => rfl | tail _ h => cases h with | head => rfl | tail _ h => cases h))) (fun k h => ?_) (by omega)))) T.dict_)) ?_
  · have q := (hk k h).2
    exact ⟨_, _, _, fun _ _ _ _ _ => dg_name (i := 2) scLO.nd, fun _ _ _ _ _ => de_tup (da_cons (de_repr hg (by show _ + 100 < cLine; exact hu) q.1 q.2.1 q.2.2 T.repr_ (nv 2)) (da_cons (nv 2) da_nil)), by simp, by first | exact G.Wk.refl _ | (repeat (first | exact G.Wk.nil | apply G.Wk.cons | apply G.Wk.drop))⟩
  refine db_at [.d (.list (ks.map NestedKey.data)), .o (.dk (tabL (ks.map fun k => (txt k, k.data)))), .un, .un] rfl ?_
  have nd := tab_nodup sm
  have h64 : ((ks.foldl addK []).map txt).length < 64 := by
    rw [List.length_map]
    have e : (onceT ks).length = (ks.foldl addK []).length := (List.mergeSort_perm _ _).length_eq
    omega
  have et := tab_once sm
  refine db_one (ds_ret (de_is (de_tupL (xs := (onceT ks).map NestedKey.data) .d T.tuple_ (DL.de (dl_mapA (onceT ks) (fun k => .str (txt k)) NestedKey.data [("text", 3)] rfl scLO.nd (blkOk_by (N := nLO) (sc := defScope sOnce2) (by decide +kernel)) (by
    have e : (onceT ks).map (fun k => PyData.str (txt k)) = ((onceT ks).map txt).map .str := by rw [List.map_map]; rfl
    rw [e]
    exact di_list (DL.de (dl_sortTx (i := 1) (kvs := tabL (ks.map fun k => (txt k, k.data))) (ks := (ks.foldl addK []).map txt) rfl (by rw [et, List.map_map, List.map_map]; rfl) h64 (fun ys hp hs => sortedS_uniq hp hs) T.sorted_ (ow 1)))) (by (intro j hj; first | (cases hj with | head => rfl | tail _ h => cases h) | (cases hj with | head => rfl | tail _ h => cases h with | head => rfl | tail _ h => cases h) | (cases hj with | head => rfl | tail _ h => cases h with | head => rfl | tail _ h => cases h with | head => rfl | tail _ h => cases h))) (fun k h => ?_) (by omega)))) (tupK_data _).symm))
  · exact ⟨_, _, _, fun _ _ _ _ _ => dg_name (i := 3) scLO.nd, fun _ _ _ _ _ => de_dkAt (i := 1) (kvs := tabL (ks.map fun k => (txt k, k.data))) (t := txt k) (d := k.data) (by show _ + 100 < cLine; exact hu) (by rw [et]; exact nd) (by rw [et]; exact List.mem_map.mpr ⟨k, (List.mergeSort_perm _ _).mem_iff.mp h, rfl⟩) (ow 1) (nv 3), by simp, by first | exact G.Wk.refl _ | (repeat (first | exact G.Wk.nil | apply G.Wk.cons | apply G.Wk.drop))⟩
theorem ok_lt {f f1 f2 : Addr} {fd fd1 fd2 : FuncData} (D : Df K mg "_law_type" s__law_type f fd ["web", "row", "r"]) (D1 : Df K mg "_law_eye" s__law_eye f1 fd1 ["web", "row"]) (D2 : Df K mg "_law_once" sOnce2 f2 fd2 ["types"]) (T : Bt mg) : ∀ R : Nat, FnG P w K mg base (R + 2) f fd ["web", "row", "r"] (spP K (psRT R))
  | 0 => by
    have gE := ok_le (P := P) (w := w) (base := base) D1 T
    refine fnP_of D.fn scLT (fun ds d ⟨_, _, _, _, _, _, _, _, e, _⟩ => by rw [e]; rfl) ?_
    rintro cdv A outer s H E ds d hg hr ⟨W, a, r, hR, hW, ha, la, hb, rfl, rfl⟩
    obtain rfl : r = 0 := by omega
    refine ⟨[.d (wbD W), .d (.tuple (a.map .int)), .d (.int (0 : Nat)), .un], db_ifT (dt_eqIt (i := ((0 : Nat) : Int)) rfl (nv 2) de_int) (db_one (ds_ret (de_is (de_tup (xs := [(eyeK W a).data, .tuple []]) (da_cons (de_callP gE hg (hr.mono (by omega)) D1.mg D1.kp D1.bd (ds := [wbD W, .tuple (a.map .int)]) (d := (eyeK W a).data) ⟨W, a, hW.ok, ha, by omega, rfl, rfl⟩ (da_cons (nv 0) (da_cons (nv 1) da_nil))) (da_cons (de_tup (xs := []) da_nil) da_nil))) ?_)))⟩
    unfold tyR
    rw [two_data, tupK_data]; rfl
  | R + 1 => by
    have gE := ok_le (P := P) (w := w) (base := base) D1 T
    have gO := ok_lon (P := P) (w := w) (base := base) D2 T
    have ih := ok_lt D D1 D2 T R
    refine fnP_of D.fn scLT (fun ds d ⟨_, _, _, _, _, _, _, _, e, _⟩ => by rw [e]; rfl) ?_
    rintro cdv A outer s H E ds d hg hr ⟨W, a, r, hR, hW, ha, la, hb, rfl, rfl⟩
    have n9 := hW.n9
    have z1 : (1000 : Nat) ≤ sizeLine := by decide
    cases r with
    | zero =>
      refine ⟨[.d (wbD W), .d (.tuple (a.map .int)), .d (.int (0 : Nat)), .un], db_ifT (dt_eqIt (i := ((0 : Nat) : Int)) rfl (nv 2) de_int) (db_one (ds_ret (de_is (de_tup (xs := [(eyeK W a).data, .tuple []]) (da_cons (de_callP gE hg (hr.mono (by omega)) D1.mg D1.kp D1.bd (ds := [wbD W, .tuple (a.map .int)]) (d := (eyeK W a).data) ⟨W, a, hW.ok, ha, by omega, rfl, rfl⟩ (da_cons (nv 0) (da_cons (nv 1) da_nil))) (da_cons (de_tup (xs := []) da_nil) da_nil))) ?_)))⟩
      unfold tyR
      rw [two_data, tupK_data]; rfl
    | succ r =>
      have hb' : bR W.n r ≤ sizeLine := by
        have e : bR W.n (r + 1) = 907 + W.n * (bR W.n r + 2) := rfl
        by_cases h0 : W.n = 0
        · rw [h0]
          have : ∀ r, bR 0 r ≤ 907 := fun r => by cases r <;> simp [bR]
          have := this r
          omega
        · have := Nat.le_mul_of_pos_left (bR W.n r + 2) (Nat.pos_of_ne_zero h0)
          omega
      have hks : ∀ k ∈ (names W.n).map (fun x => tyR W r (a ++ [x])), Sm k ∧ Sh k.data := fun k hk => by
        obtain ⟨x, hx, rfl⟩ := List.mem_map.mp hk
        have l2 : (a ++ [x]).length + r ≤ 6 := by rw [List.length_append]; simp only [List.length_cons, List.length_nil]; omega
        exact ⟨sm_tyR hW r _ (by omega), sh_tyR hW (Nat.le_refl _) l2 hb'⟩
      refine ⟨[.d (wbD W), .d (.tuple (a.map .int)), .d (.int ((r + 1 : Nat) : Int)), .un], db_ifF (dt_eqIf (i := ((r + 1 : Nat) : Int)) (by omega) (nv 2) de_int) (db_one (ds_ret (de_is (de_tup (xs := [(eyeK W a).data, (NestedKey.tup (onceT ((names W.n).map fun x => tyR W r (a ++ [x])))).data]) (da_cons (de_callP gE hg (hr.mono (by omega)) D1.mg D1.kp D1.bd (ds := [wbD W, .tuple (a.map .int)]) (d := (eyeK W a).data) ⟨W, a, hW.ok, ha, by omega, rfl, rfl⟩ (da_cons (nv 0) (da_cons (nv 1) da_nil))) (da_cons (de_callP gO hg (hr.mono (by omega)) D2.mg D2.kp D2.bd (ds := [.list (((names W.n).map fun x => tyR W r (a ++ [x])).map NestedKey.data)]) (d := (NestedKey.tup (onceT ((names W.n).map fun x => tyR W r (a ++ [x])))).data) ⟨_, hks, by rw [List.length_map, names_len]; omega, rfl, rfl⟩ (da_cons (DL.de (dl_is ?_ (dl_mapA (names W.n) .int (fun x => (tyR W r (a ++ [x])).data) [("x", 3)] rfl scLT.nd (blkOk_by (N := nRT) (sc := defScope s__law_type) (by decide +kernel)) (di_names T.range_ (by omega) (de_w0 (W := W) (nv 0))) (by (intro j hj; first | (cases hj with | head => rfl | tail _ h => cases h) | (cases hj with | head => rfl | tail _ h => cases h with | head => rfl | tail _ h => cases h) | (cases hj with | head => rfl | tail _ h => cases h with | head => rfl | tail _ h => cases h with | head => rfl | tail _ h => cases h))) (fun x hx => ?_) (by rw [names_len]; omega)))) da_nil)) da_nil))) ?_)))⟩
      · rw [List.map_map]; rfl
      · refine ⟨_, _, _, fun _ _ _ _ _ => dg_name (i := 3) scLT.nd, fun _ _ _ _ _ => (de_callP ih hg (hr.mono (by omega)) D.mg D.kp D.bd (ds := [wbD W, .tuple ((a ++ [x]).map .int), .int r]) (d := (tyR W r (a ++ [x])).data) ⟨W, a ++ [x], r, by omega, hW, fun y hy => ?_, ?_, hb', rfl, rfl⟩ (da_cons (nv 0) (da_cons (de_is (de_catT (xs := a.map .int) (ys := [.int x]) (by rw [List.length_map]; simp only [List.length_cons, List.length_nil]; omega) (nv 1) (de_tup (xs := [.int x]) (da_cons (nv 3) da_nil))) (by rw [List.map_append]; rfl)) (da_cons (de_is (de_sub (nv 2) de_int) (by congr 1; omega)) da_nil)))), by simp, by first | exact G.Wk.refl _ | (repeat (first | exact G.Wk.nil | apply G.Wk.cons | apply G.Wk.drop))⟩
        · rcases List.mem_append.mp hy with hy | hy
          · exact ha y hy
          · rw [List.mem_singleton.mp hy]; exact hx
        · rw [List.length_append]; simp only [List.length_cons, List.length_nil]; omega
      · exact (two_data _ _).symm
end
end G

set_option Elab.async false
set_option linter.all false
set_option maxRecDepth 100000
set_option maxHeartbeats 4000000
/- types counted, walked -/
namespace G
open PySem L2 PySem.Spec PyProof.Rows
def Ws (r : Nat) (L : List Wb) : Prop := L.length ≤ 20 ∧ ∀ W ∈ L, Dg W ∧ bR W.n r ≤ sizeLine
def tcD (r : Nat) (L : List Wb) : PyData := .tuple ((onceT (tyL r L)).map fun k => .tuple [k.data, .int (cnt k (tyL r L) : Nat)])
def psTC (ds : List PyData) (d : PyData) : Prop := ∃ (L : List Wb) (r : Nat), r ≤ 2 ∧ Ws r L ∧ ds = [.tuple (L.map wbD), .int r] ∧ d = tcD r L
def psCA (ds : List PyData) (d : PyData) : Prop := ∃ (L M : List Wb) (r : Nat), r ≤ 2 ∧ Ws r L ∧ Ws r M ∧ ds = [.tuple (L.map wbD), .tuple (M.map wbD), .int r] ∧ d = .bool (okB r (tyL r L) (tyL r M))
def psLC (ds : List PyData) (b : Ob) : Prop := ∃ (L : List Wb) (r : Nat), r ≤ 2 ∧ Ws r L ∧ ds = [.tuple (L.map wbD), .int r] ∧ b = .dk (cntD (tyL r L))
theorem Ws.dg {r : Nat} {L : List Wb} (h : Ws r L) : ∀ W ∈ L, Dg W := fun W hW => (h.2 W hW).1
theorem Ws.sh {r : Nat} (hr : r ≤ 2) {L : List Wb} (h : Ws r L) : ∀ k ∈ tyL r L, Sh k.data := fun k hk => by
  obtain ⟨W, hW, rfl⟩ := List.mem_map.mp hk
  exact sh_tyR (h.2 W hW).1 (Nat.le_refl _) (by simpa using Nat.le_trans hr (by decide)) (h.2 W hW).2
theorem Ws.sm {r : Nat} (hr : r ≤ 2) {L : List Wb} (h : Ws r L) : ∀ k ∈ tyL r L, Sm k := sm_tyL (by omega) h.dg
theorem tyL_len (r : Nat) (L : List Wb) : (tyL r L).length = L.length := List.length_map _
theorem fold_len2 (ks : List NestedKey) : (ks.foldl addK []).length ≤ ks.length := by
  have := onceT_len ks
  unfold onceT at this
  rwa [(List.mergeSort_perm _ _).length_eq] at this
theorem tyL_snoc (r : Nat) (L : List Wb) {i : Nat} {W : Wb} (h : L[i]? = some W) : tyL r (L.take (i + 1)) = tyL r (L.take i) ++ [tyR W r []] := by
  unfold tyL
  rw [List.take_add_one, h, List.map_append]; rfl
theorem turnB {X : Cx} {ρt ρa ρr ρ1 : Env'} {v : Bool} {d : PyData} {c : Expr} {as : List Stmt} {pos : Pos} (h : DT X ρt c (!v) ρa) (hr : DB X ρa as (.rt d ρr)) (w : Wk ρa ρ1) (w' : Wk ρr ρ1) : (v = true → DB X ρt [.If c as [] pos] (.nx ρ1)) ∧ (v = false → DB X ρt [.If c as [] pos] (.rt d ρ1)) := turn_if h hr w w'
theorem fit_test (r : Nat) (ks ms : List NestedKey) (k : NestedKey) : (!decide ((cnt k ks : Int) = (cnt k ms : Int)) && decide ((if (cnt k ms : Int) < (cnt k ks : Int) then (cnt k ms : Int) else (cnt k ks : Int)) < (r : Int))) = !fitB r ks ms k := by
  unfold fitB
  rw [Bool.not_or]
  congr 1
  · congr 1
    exact decide_eq_decide.mpr Int.natCast_inj
  · rw [← decide_not]
    refine decide_eq_decide.mpr ?_
    rw [Nat.min_def]
    split <;> split <;> omega
abbrev nTC : List Str := ["webs", "r", "known", "many", "web", "told", "text"]
theorem scTC : FnScope nTC ["webs", "r"] (defScope s_type_counts) := ⟨rfl, rfl, rfl, by decide +kernel, rfl, by decide +kernel, by decide +kernel⟩
abbrev nCA : List Str := ["webs", "others", "r", "mine", "theirs", "text", "one", "other", "told", "many"]
theorem scCA : FnScope nCA ["webs", "others", "r"] (defScope s_are_counted_alike) := ⟨rfl, rfl, rfl, by decide +kernel, rfl, by decide +kernel, by decide +kernel⟩
abbrev nLC : List Str := ["webs", "r", "found", "web", "text"]
theorem scLC : FnScope nLC ["webs", "r"] (defScope s__law_counts) := ⟨rfl, rfl, rfl, by decide +kernel, rfl, by decide +kernel, by decide +kernel⟩
abbrev nLA : List Str := ["webs", "others", "r", "mine", "theirs", "text", "one", "other"]
theorem scLA : FnScope nLA ["webs", "others", "r"] (defScope s__law_are_alike) := ⟨rfl, rfl, rfl, by decide +kernel, rfl, by decide +kernel, by decide +kernel⟩
section
variable {P : Program} {w : World} {K : PySem.W.Frag} {mg : Str → Option Value} {base : Heap}
theorem ok_tc {f f1 f2 f3 : Addr} {fd fd1 fd2 fd3 : FuncData} (D : Df K mg "type_counts" s_type_counts f fd ["webs", "r"]) (D1 : Df K mg "rank_type" s_rank_type f1 fd1 ["web", "row", "r"]) (D2 : Df K mg "row_eye" s_row_eye f2 fd2 ["web", "row"]) (D3 : Df K mg "each_once" s_each_once f3 fd3 ["types"]) (T : Bt mg) : FnG P w K mg base 5 f fd ["webs", "r"] (spP K psTC) := by
  have gT := ok_rt (P := P) (w := w) (base := base) D1 D2 D3 T 2
  refine fnP_of D.fn scTC (fun ds d ⟨_, _, _, _, e, _⟩ => by rw [e]; rfl) ?_
  rintro cdv A outer s H E ds d hg hr ⟨L, r, hr2, hWs, rfl, rfl⟩
  have hu : (A.deeper (envOfC "type_counts" (defScope s_type_counts) s.heap.objs.size f cdv)).units + 100 < cLine := by have := hr.un; omega
  have z1 : (100000 : Nat) ≤ sizeLine := by decide
  refine ⟨[.d (.tuple (L.map wbD)), .d (.int (r : Nat)), .o (.dk (tabL ((tyL r L).map fun k => (txt k, k.data)))), .o (.dk (cntD (tyL r L))), .un, .un, .un], ?_⟩
  refine db_cons (ds_asgFF (i := 2) (j := 3) rfl scTC.nd df_empty df_empty (by decide)) ?_
  refine db_cons (ds_for PassesOwn.never rfl (di_tup (nv 0)) (fun i => [.d (.tuple (L.map wbD)), .d (.int (r : Nat)), .o (.dk (tabL ((tyL r (L.take i)).map fun k => (txt k, k.data)))), .o (.dk (cntD (tyL r (L.take i)))), .un, .un, .un]) (Wk.refl _) (fun i x hx => ?_) (ρ2 := [.d (.tuple (L.map wbD)), .d (.int (r : Nat)), .o (.dk (tabL ((tyL r L).map fun k => (txt k, k.data)))), .o (.dk (cntD (tyL r L))), .un, .un, .un]) (by rw [List.length_map, List.take_length])) ?_
  · obtain ⟨W, hWi, rfl⟩ : ∃ W, L[i]? = some W ∧ x = wbD W := by
      rw [List.getElem?_map] at hx
      cases e : L[i]? with
      | none => rw [e] at hx; cases hx
      | some c => rw [e] at hx; exact ⟨c, rfl, (Option.some.inj hx).symm⟩
    have hW : W ∈ L := List.mem_of_getElem? hWi
    have hs := hWs.sh hr2 (tyR W r []) (List.mem_map_of_mem hW)
    have smi : ∀ z ∈ tyL r (L.take i), Sm z := fun z hz => by
      obtain ⟨U, hU, rfl⟩ := List.mem_map.mp hz
      exact hWs.sm hr2 _ (List.mem_map_of_mem (List.mem_of_mem_take hU))
    have smk := hWs.sm hr2 (tyR W r []) (List.mem_map_of_mem hW)
    have li : (tyL r (L.take i)).length ≤ 20 := by rw [tyL_len]; exact Nat.le_trans (List.length_take_le' _ _) hWs.1
    have lk : (cntD (tyL r (L.take i))).length ≤ 20 := by unfold cntD ofK; rw [List.length_map]; exact Nat.le_trans (fold_len2 _) li
    refine ⟨_, _, dg_name (i := 4) scTC.nd, ?_⟩
    refine db_at [.d (.tuple (L.map wbD)), .d (.int (r : Nat)), .o (.dk (tabL ((tyL r (L.take i)).map fun k => (txt k, k.data)))), .o (.dk (cntD (tyL r (L.take i)))), .d (wbD W), .un, .un] rfl ?_
    refine db_cons (ds_set (i := 5) (y := (tyR W r []).data) scTC.nd (de_callP gT hg (hr.mono (by omega)) D1.mg D1.kp D1.bd (ds := [wbD W, .tuple (([] : List Int).map .int), .int r]) (d := (tyR W r []).data) ⟨W, [], r, hr2, (hWs.2 W hW).1, (fun x hx => nomatch hx), (by simp only [List.length_nil]; omega), (hWs.2 W hW).2, rfl, rfl⟩ (da_cons (nv 4) (da_cons (de_tup (xs := []) da_nil) (da_cons (nv 1) da_nil))))) ?_
    refine db_at [.d (.tuple (L.map wbD)), .d (.int (r : Nat)), .o (.dk (tabL ((tyL r (L.take i)).map fun k => (txt k, k.data)))), .o (.dk (cntD (tyL r (L.take i)))), .d (wbD W), .d (tyR W r []).data, .un] rfl ?_
    refine db_cons (ds_dput (i := 2) (k := .inr (txt (tyR W r []))) (kvs := tabL ((tyL r (L.take i)).map fun k => (txt k, k.data))) (y := (tyR W r []).data) (ρ3 := [.d (.tuple (L.map wbD)), .d (.int (r : Nat)), .o (.dk (tabL ((tyL r (L.take i)).map fun k => (txt k, k.data)))), .o (.dk (cntD (tyL r (L.take i)))), .d (wbD W), .d (tyR W r []).data, .un]) hu (Nat.lt_of_le_of_lt (tabL_len _) (by rw [List.length_map]; omega)) (nv 5) (ow 2) (de_repr hg hu hs.1 hs.2.1 hs.2.2 T.repr_ (nv 5))) ?_
    have e1 : putD (tabL ((tyL r (L.take i)).map fun k => (txt k, k.data))) (.inr (txt (tyR W r []))) (tyR W r []).data = tabL ((tyL r (L.take (i + 1))).map fun k => (txt k, k.data)) := by
      rw [tyL_snoc r L hWi, List.map_append]
      exact (tabL_snoc _ (txt (tyR W r []), (tyR W r []).data)).symm
    rw [e1]
    refine db_at [.d (.tuple (L.map wbD)), .d (.int (r : Nat)), .o (.dk (tabL ((tyL r (L.take (i + 1))).map fun k => (txt k, k.data)))), .o (.dk (cntD (tyL r (L.take i)))), .d (wbD W), .d (tyR W r []).data, .un] rfl ?_
    refine db_nx (ds_dput (i := 3) (k := .inr (txt (tyR W r []))) (kvs := cntD (tyL r (L.take i))) (y := .int ((cnt (tyR W r []) (tyL r (L.take i)) : Nat) + 1)) (ρ3 := [.d (.tuple (L.map wbD)), .d (.int (r : Nat)), .o (.dk (tabL ((tyL r (L.take (i + 1))).map fun k => (txt k, k.data)))), .o (.dk (cntD (tyL r (L.take i)))), .d (wbD W), .d (tyR W r []).data, .un]) hu (by omega) (de_add (de_is (de_dget2 (k := .inr (txt (tyR W r []))) hu (.o (i := 3) rfl) (.o (i := 3) rfl) (ow 3) (de_repr hg hu hs.1 hs.2.1 hs.2.2 T.repr_ (nv 5)) de_int) (lk_cnt smi smk)) de_int) (ow 3) (de_repr hg hu hs.1 hs.2.1 hs.2.2 T.repr_ (nv 5))) ?_
    rw [cnt_put smi smk, ← tyL_snoc r L hWi]
    first | exact G.Wk.refl _ | (repeat (first | exact G.Wk.nil | apply G.Wk.cons | apply G.Wk.drop))
  have sm := hWs.sm hr2
  have et := tab_once sm
  have h64 : (((tyL r L).foldl addK []).map txt).length < 64 := by
    have := fold_len2 (tyL r L)
    rw [tyL_len] at this
    have := hWs.1
    rw [List.length_map]; omega
  have lo : (onceT (tyL r L)).length ≤ 20 := Nat.le_trans (onceT_len _) (by rw [tyL_len]; exact hWs.1)
  refine db_one (ds_ret (de_tupL (xs := (onceT (tyL r L)).map fun k => .tuple [k.data, .int (cnt k (tyL r L) : Nat)]) .d T.tuple_ (DL.de (dl_mapA (onceT (tyL r L)) (fun k => .str (txt k)) (fun k => .tuple [k.data, .int (cnt k (tyL r L) : Nat)]) [("text", 6)] rfl scTC.nd (blkOk_by (N := nTC) (sc := defScope s_type_counts) (by decide +kernel)) (by
    have e : (onceT (tyL r L)).map (fun k => PyData.str (txt k)) = ((onceT (tyL r L)).map txt).map .str := by rw [List.map_map]; rfl
    rw [e]
    exact di_list (DL.de (dl_sortTx (i := 2) (kvs := tabL ((tyL r L).map fun k => (txt k, k.data))) (ks := ((tyL r L).foldl addK []).map txt) rfl (by rw [et, List.map_map, List.map_map]; rfl) h64 (fun ys hp hs => sortedS_uniq hp hs) T.sorted_ (ow 2)))) (by (intro j hj; first | (cases hj with | head => rfl | tail _ h => cases h) | (cases hj with | head => rfl | tail _ h => cases h with | head => rfl | tail _ h => cases h) | (cases hj with | head => rfl | tail _ h => cases h with | head => rfl | tail _ h => cases h with | head => rfl | tail _ h => cases h))) (fun k h => ?_) (by omega)))))
  have hk : k ∈ tyL r L := mem_onceT.mp h
  exact ⟨_, _, _, fun _ _ _ _ _ => dg_name (i := 6) scTC.nd, fun _ _ _ _ _ => de_tup (da_cons (de_dkAt (i := 2) (kvs := tabL ((tyL r L).map fun k => (txt k, k.data))) (t := txt k) (d := k.data) (by show _ + 100 < cLine; exact hu) (by rw [et]; exact tab_nodup sm) (by rw [et]; exact List.mem_map.mpr ⟨k, mem_fold.mpr hk, rfl⟩) (ow 2) (nv 6)) (da_cons (de_dix (k := .inr (txt k)) (s := cntD (tyL r L)) (by show _ + 100 < cLine; exact hu) (.o (i := 3) rfl) (by unfold cntD; rw [lk_ofK (sm k hk) fun z hz => sm z (mem_fold.mp hz), if_pos (mem_fold.mpr hk)]) (ow 3) (nv 6)) da_nil)), by simp, by first | exact G.Wk.refl _ | (repeat (first | exact G.Wk.nil | apply G.Wk.cons | apply G.Wk.drop))⟩
theorem ok_ca {f f1 f2 f3 f4 : Addr} {fd fd1 fd2 fd3 fd4 : FuncData} (D : Df K mg "are_counted_alike" s_are_counted_alike f fd ["webs", "others", "r"]) (D1 : Df K mg "type_counts" s_type_counts f1 fd1 ["webs", "r"]) (D2 : Df K mg "rank_type" s_rank_type f2 fd2 ["web", "row", "r"]) (D3 : Df K mg "row_eye" s_row_eye f3 fd3 ["web", "row"]) (D4 : Df K mg "each_once" s_each_once f4 fd4 ["types"]) (T : Bt mg) : FnG P w K mg base 6 f fd ["webs", "others", "r"] (spP K psCA) := by
  have gC := ok_tc (P := P) (w := w) (base := base) D1 D2 D3 D4 T
  refine fnP_of D.fn scCA (fun ds d ⟨_, _, _, _, _, _, e, _⟩ => by rw [e]; rfl) ?_
  rintro cdv A outer s H E ds d hg hr ⟨L, M, r, hr2, hL, hM, rfl, rfl⟩
  have hu : (A.deeper (envOfC "are_counted_alike" (defScope s_are_counted_alike) s.heap.objs.size f cdv)).units + 100 < cLine := by have := hr.un; omega
  have z1 : (100000 : Nat) ≤ sizeLine := by decide
  have sL := hL.sm hr2
  have sM := hM.sm hr2
  have lL : (onceT (tyL r L)).length ≤ 20 := Nat.le_trans (onceT_len _) (by rw [tyL_len]; exact hL.1)
  have lM : (onceT (tyL r M)).length ≤ 20 := Nat.le_trans (onceT_len _) (by rw [tyL_len]; exact hM.1)
  refine ⟨[.d (.tuple (L.map wbD)), .d (.tuple (M.map wbD)), .d (.int (r : Nat)), .o (.dk (ofK (fun k => cnt k (tyL r L)) (onceT (tyL r L)))), .o (.dk (ofK (fun k => cnt k (tyL r M)) (onceT (tyL r M)))), .un, .un, .un, .un, .un], ?_⟩
  refine db_cons (ds_setDcT (i := 3) (onceT (tyL r L)) (fun k => .tuple [k.data, .int (cnt k (tyL r L) : Nat)]) txt (fun k => .int (cnt k (tyL r L) : Nat)) [("told", 8), ("many", 9)] rfl scCA.nd (blkOk_by (N := nCA) (sc := defScope s_are_counted_alike) (by decide +kernel)) (di_tup (de_callP gC hg (hr.mono (by omega)) D1.mg D1.kp D1.bd (ds := [.tuple (L.map wbD), .int r]) (d := tcD r L) ⟨L, r, hr2, hL, rfl, rfl⟩ (da_cons (nv 0) (da_cons (nv 2) da_nil)))) (by (intro j hj; first | (cases hj with | head => rfl | tail _ h => cases h) | (cases hj with | head => rfl | tail _ h => cases h with | head => rfl | tail _ h => cases h) | (cases hj with | head => rfl | tail _ h => cases h with | head => rfl | tail _ h => cases h with | head => rfl | tail _ h => cases h))) (fun k h => ?_) (by omega)) ?_
  · have hs := hL.sh hr2 k (mem_onceT.mp h)
    exact ⟨_, _, _, _, fun _ _ _ _ _ => (dg_tup rfl (dgs_cons (dg_name (i := 8) scCA.nd) (dgs_cons (dg_name (i := 9) scCA.nd) dgs_nil))), fun _ _ _ _ _ => (de_repr hg (by show _ + 100 < cLine; exact hu) hs.1 hs.2.1 hs.2.2 T.repr_ (nv 8)), fun _ _ _ _ _ => (nv 9), by simp, by first | exact G.Wk.refl _ | (repeat (first | exact G.Wk.nil | apply G.Wk.cons | apply G.Wk.drop))⟩
  rw [tab_onceT sL]
  refine db_at [.d (.tuple (L.map wbD)), .d (.tuple (M.map wbD)), .d (.int (r : Nat)), .o (.dk (ofK (fun k => cnt k (tyL r L)) (onceT (tyL r L)))), .un, .un, .un, .un, .un, .un] rfl ?_
  refine db_cons (ds_setDcT (i := 4) (onceT (tyL r M)) (fun k => .tuple [k.data, .int (cnt k (tyL r M) : Nat)]) txt (fun k => .int (cnt k (tyL r M) : Nat)) [("told", 8), ("many", 9)] rfl scCA.nd (blkOk_by (N := nCA) (sc := defScope s_are_counted_alike) (by decide +kernel)) (di_tup (de_callP gC hg (hr.mono (by omega)) D1.mg D1.kp D1.bd (ds := [.tuple (M.map wbD), .int r]) (d := tcD r M) ⟨M, r, hr2, hM, rfl, rfl⟩ (da_cons (nv 1) (da_cons (nv 2) da_nil)))) (by (intro j hj; first | (cases hj with | head => rfl | tail _ h => cases h) | (cases hj with | head => rfl | tail _ h => cases h with | head => rfl | tail _ h => cases h) | (cases hj with | head => rfl | tail _ h => cases h with | head => rfl | tail _ h => cases h with | head => rfl | tail _ h => cases h))) (fun k h => ?_) (by omega)) ?_
  · have hs := hM.sh hr2 k (mem_onceT.mp h)
    exact ⟨_, _, _, _, fun _ _ _ _ _ => (dg_tup rfl (dgs_cons (dg_name (i := 8) scCA.nd) (dgs_cons (dg_name (i := 9) scCA.nd) dgs_nil))), fun _ _ _ _ _ => (de_repr hg (by show _ + 100 < cLine; exact hu) hs.1 hs.2.1 hs.2.2 T.repr_ (nv 8)), fun _ _ _ _ _ => (nv 9), by simp, by first | exact G.Wk.refl _ | (repeat (first | exact G.Wk.nil | apply G.Wk.cons | apply G.Wk.drop))⟩
  rw [tab_onceT sM]
  refine db_at [.d (.tuple (L.map wbD)), .d (.tuple (M.map wbD)), .d (.int (r : Nat)), .o (.dk (ofK (fun k => cnt k (tyL r L)) (onceT (tyL r L)))), .o (.dk (ofK (fun k => cnt k (tyL r M)) (onceT (tyL r M)))), .un, .un, .un, .un, .un] rfl ?_
  have eo := ok_once r (tyL r L) (tyL r M)
  rw [← eo]
  have kd : ∀ N : List Wb, (ofK (fun k => cnt k (tyL r N)) (onceT (tyL r N))).map (fun kv => keyD kv.1) = (onceT (tyL r N)).map fun k => PyData.str (txt k) := fun N => by
    unfold ofK
    rw [List.map_map]; rfl
  refine db_forMap (onceT (tyL r L) ++ onceT (tyL r M)) (fun k => .str (txt k)) (fitB r (tyL r L) (tyL r M)) (.bool false) PassesOwn.never rfl (di_is (by rw [List.append_nil, kd, kd, List.map_append]) (di_list (DL.de (dl_lst (da_starD rfl (.o (i := 3) rfl) (ow 3) (da_starD rfl (.o (i := 4) rfl) (ow 4) da_nil)) (hz := by rw [List.append_nil, kd, kd, List.length_append, List.length_map, List.length_map]; omega))))) (fun k hk => ?_) (fun h => ?_) (fun h => ?_)
  · have hk' : Sm k := (List.mem_append.mp hk).elim (fun q => sL k (mem_onceT.mp q)) (fun q => sM k (mem_onceT.mp q))
    refine ⟨_, _, dg_name (i := 5) scCA.nd, fun h => ?_, fun h => ?_⟩
    · refine db_cons (ds_par (i := 6) (j := 7) (d1 := .int (cnt k (tyL r L) : Nat)) (d2 := .int (cnt k (tyL r M) : Nat)) (ρ1 := [.d (.tuple (L.map wbD)), .d (.tuple (M.map wbD)), .d (.int (r : Nat)), .o (.dk (ofK (fun k => cnt k (tyL r L)) (onceT (tyL r L)))), .o (.dk (ofK (fun k => cnt k (tyL r M)) (onceT (tyL r M)))), .d (.str (txt k)), .un, .un, .un, .un]) rfl scCA.nd (da_cons (de_is (de_dget2 (k := .inr (txt k)) hu (.o (i := 3) rfl) (.o (i := 3) rfl) (ow 3) (nv 5) de_int) (lk_once sL hk')) (da_cons (de_is (de_dget2 (k := .inr (txt k)) hu (.o (i := 4) rfl) (.o (i := 4) rfl) (ow 4) (nv 5) de_int) (lk_once sM hk')) da_nil))) ?_
      refine db_at [.d (.tuple (L.map wbD)), .d (.tuple (M.map wbD)), .d (.int (r : Nat)), .o (.dk (ofK (fun k => cnt k (tyL r L)) (onceT (tyL r L)))), .o (.dk (ofK (fun k => cnt k (tyL r M)) (onceT (tyL r M)))), .d (.str (txt k)), .d (.int (cnt k (tyL r L) : Nat)), .d (.int (cnt k (tyL r M) : Nat)), .un, .un] rfl ?_
      exact db_weak (db_ifF (ρ1 := [.d (.tuple (L.map wbD)), .d (.tuple (M.map wbD)), .d (.int (r : Nat)), .o (.dk (ofK (fun k => cnt k (tyL r L)) (onceT (tyL r L)))), .o (.dk (ofK (fun k => cnt k (tyL r M)) (onceT (tyL r M)))), .d (.str (txt k)), .d (.int (cnt k (tyL r L) : Nat)), .d (.int (cnt k (tyL r M) : Nat)), .un, .un]) (dt_is (DW.dt (dw_and (dt_neI (nv 6) (nv 7)) (fun _ => dw_and1 (dt_lt (de_min2 rfl T.min_ (da_cons (nv 6) (da_cons (nv 7) da_nil))) (nv 2))) (fun _ => rfl))) (by rw [fit_test, h]; rfl)) db_nil) (by first | exact G.Wk.refl _ | (repeat (first | exact G.Wk.nil | apply G.Wk.cons | apply G.Wk.drop)))
    · refine db_cons (ds_par (i := 6) (j := 7) (d1 := .int (cnt k (tyL r L) : Nat)) (d2 := .int (cnt k (tyL r M) : Nat)) (ρ1 := [.d (.tuple (L.map wbD)), .d (.tuple (M.map wbD)), .d (.int (r : Nat)), .o (.dk (ofK (fun k => cnt k (tyL r L)) (onceT (tyL r L)))), .o (.dk (ofK (fun k => cnt k (tyL r M)) (onceT (tyL r M)))), .d (.str (txt k)), .un, .un, .un, .un]) rfl scCA.nd (da_cons (de_is (de_dget2 (k := .inr (txt k)) hu (.o (i := 3) rfl) (.o (i := 3) rfl) (ow 3) (nv 5) de_int) (lk_once sL hk')) (da_cons (de_is (de_dget2 (k := .inr (txt k)) hu (.o (i := 4) rfl) (.o (i := 4) rfl) (ow 4) (nv 5) de_int) (lk_once sM hk')) da_nil))) ?_
      refine db_at [.d (.tuple (L.map wbD)), .d (.tuple (M.map wbD)), .d (.int (r : Nat)), .o (.dk (ofK (fun k => cnt k (tyL r L)) (onceT (tyL r L)))), .o (.dk (ofK (fun k => cnt k (tyL r M)) (onceT (tyL r M)))), .d (.str (txt k)), .d (.int (cnt k (tyL r L) : Nat)), .d (.int (cnt k (tyL r M) : Nat)), .un, .un] rfl ?_
      exact db_ifT (ρ1 := [.d (.tuple (L.map wbD)), .d (.tuple (M.map wbD)), .d (.int (r : Nat)), .o (.dk (ofK (fun k => cnt k (tyL r L)) (onceT (tyL r L)))), .o (.dk (ofK (fun k => cnt k (tyL r M)) (onceT (tyL r M)))), .d (.str (txt k)), .d (.int (cnt k (tyL r L) : Nat)), .d (.int (cnt k (tyL r M) : Nat)), .un, .un]) (dt_is (DW.dt (dw_and (dt_neI (nv 6) (nv 7)) (fun _ => dw_and1 (dt_lt (de_min2 rfl T.min_ (da_cons (nv 6) (da_cons (nv 7) da_nil))) (nv 2))) (fun _ => rfl))) (by rw [fit_test, h]; rfl)) (db_rtW (ρ1 := [.d (.tuple (L.map wbD)), .d (.tuple (M.map wbD)), .d (.int (r : Nat)), .o (.dk (ofK (fun k => cnt k (tyL r L)) (onceT (tyL r L)))), .o (.dk (ofK (fun k => cnt k (tyL r M)) (onceT (tyL r M)))), .d (.str (txt k)), .d (.int (cnt k (tyL r L) : Nat)), .d (.int (cnt k (tyL r M) : Nat)), .un, .un]) (db_one (ds_ret de_bl)) (by first | exact G.Wk.refl _ | (repeat (first | exact G.Wk.nil | apply G.Wk.cons | apply G.Wk.drop))))
  · rw [h]; exact db_one (ds_ret de_bl)
  · rw [h]
theorem ok_lc2 {f f1 f2 f3 : Addr} {fd fd1 fd2 fd3 : FuncData} (D : Df K mg "_law_counts" s__law_counts f fd ["webs", "r"]) (D1 : Df K mg "_law_type" s__law_type f1 fd1 ["web", "row", "r"]) (D2 : Df K mg "_law_eye" s__law_eye f2 fd2 ["web", "row"]) (D3 : Df K mg "_law_once" sOnce2 f3 fd3 ["types"]) (T : Bt mg) : FnG P w K mg base 5 f fd ["webs", "r"] (spO K psLC) := by
  have gT := ok_lt (P := P) (w := w) (base := base) D1 D2 D3 T 2
  refine fnO_of D.fn scLC (fun ds d ⟨_, _, _, _, e, _⟩ => by rw [e]; rfl) ?_
  rintro cdv A outer s H E ds d hg hr ⟨L, r, hr2, hWs, rfl, rfl⟩
  have hu : (A.deeper (envOfC "_law_counts" (defScope s__law_counts) s.heap.objs.size f cdv)).units + 100 < cLine := by have := hr.un; omega
  have z1 : (100000 : Nat) ≤ sizeLine := by decide
  refine dbo_cons (ds_newDk (i := 2) scLC.nd) ?_
  refine dbo_cons (ds_for PassesOwn.never rfl (di_tup (nv 0)) (fun i => [.d (.tuple (L.map wbD)), .d (.int (r : Nat)), .o (.dk (cntD (tyL r (L.take i)))), .un, .un]) (Wk.refl _) (fun i x hx => ?_) (ρ2 := [.d (.tuple (L.map wbD)), .d (.int (r : Nat)), .o (.dk (cntD (tyL r L))), .un, .un]) (by rw [List.length_map, List.take_length])) ?_
  · obtain ⟨W, hWi, rfl⟩ : ∃ W, L[i]? = some W ∧ x = wbD W := by
      rw [List.getElem?_map] at hx
      cases e : L[i]? with
      | none => rw [e] at hx; cases hx
      | some c => rw [e] at hx; exact ⟨c, rfl, (Option.some.inj hx).symm⟩
    have hW : W ∈ L := List.mem_of_getElem? hWi
    have hs := hWs.sh hr2 (tyR W r []) (List.mem_map_of_mem hW)
    have smi : ∀ z ∈ tyL r (L.take i), Sm z := fun z hz => by
      obtain ⟨U, hU, rfl⟩ := List.mem_map.mp hz
      exact hWs.sm hr2 _ (List.mem_map_of_mem (List.mem_of_mem_take hU))
    have smk := hWs.sm hr2 (tyR W r []) (List.mem_map_of_mem hW)
    have li : (tyL r (L.take i)).length ≤ 20 := by rw [tyL_len]; exact Nat.le_trans (List.length_take_le' _ _) hWs.1
    have lk : (cntD (tyL r (L.take i))).length ≤ 20 := by unfold cntD ofK; rw [List.length_map]; exact Nat.le_trans (fold_len2 _) li
    refine ⟨_, _, dg_name (i := 3) scLC.nd, ?_⟩
    refine db_at [.d (.tuple (L.map wbD)), .d (.int (r : Nat)), .o (.dk (cntD (tyL r (L.take i)))), .d (wbD W), .un] rfl ?_
    refine db_cons (ds_set (i := 4) (y := .str (txt (tyR W r []))) scLC.nd (de_repr hg hu hs.1 hs.2.1 hs.2.2 T.repr_ (de_callP gT hg (hr.mono (by omega)) D1.mg D1.kp D1.bd (ds := [wbD W, .tuple (([] : List Int).map .int), .int r]) (d := (tyR W r []).data) ⟨W, [], r, hr2, (hWs.2 W hW).1, (fun x hx => nomatch hx), (by simp only [List.length_nil]; omega), (hWs.2 W hW).2, rfl, rfl⟩ (da_cons (nv 3) (da_cons (de_tup (xs := []) da_nil) (da_cons (nv 1) da_nil)))))) ?_
    refine db_at [.d (.tuple (L.map wbD)), .d (.int (r : Nat)), .o (.dk (cntD (tyL r (L.take i)))), .d (wbD W), .d (.str (txt (tyR W r [])))] rfl ?_
    refine db_nx (ds_dput (i := 2) (k := .inr (txt (tyR W r []))) (kvs := cntD (tyL r (L.take i))) (y := .int ((cnt (tyR W r []) (tyL r (L.take i)) : Nat) + 1)) (ρ3 := [.d (.tuple (L.map wbD)), .d (.int (r : Nat)), .o (.dk (cntD (tyL r (L.take i)))), .d (wbD W), .d (.str (txt (tyR W r [])))]) hu (by omega) (de_add (de_is (de_dget2 (k := .inr (txt (tyR W r []))) hu (.o (i := 2) rfl) (.o (i := 2) rfl) (ow 2) (nv 4) de_int) (lk_cnt smi smk)) de_int) (ow 2) (nv 4)) ?_
    rw [cnt_put smi smk, ← tyL_snoc r L hWi]
    first | exact G.Wk.refl _ | (repeat (first | exact G.Wk.nil | apply G.Wk.cons | apply G.Wk.drop))
  exact dbo_retK (i := 2) (ow 2)
theorem ok_la2 {f f1 f2 f3 f4 : Addr} {fd fd1 fd2 fd3 fd4 : FuncData} (D : Df K mg "_law_are_alike" s__law_are_alike f fd ["webs", "others", "r"]) (D1 : Df K mg "_law_counts" s__law_counts f1 fd1 ["webs", "r"]) (D2 : Df K mg "_law_type" s__law_type f2 fd2 ["web", "row", "r"]) (D3 : Df K mg "_law_eye" s__law_eye f3 fd3 ["web", "row"]) (D4 : Df K mg "_law_once" sOnce2 f4 fd4 ["types"]) (T : Bt mg) : FnG P w K mg base 6 f fd ["webs", "others", "r"] (spP K psCA) := by
  have gC := ok_lc2 (P := P) (w := w) (base := base) D1 D2 D3 D4 T
  refine fnP_of D.fn scLA (fun ds d ⟨_, _, _, _, _, _, e, _⟩ => by rw [e]; rfl) ?_
  rintro cdv A outer s H E ds d hg hr ⟨L, M, r, hr2, hL, hM, rfl, rfl⟩
  have hu : (A.deeper (envOfC "_law_are_alike" (defScope s__law_are_alike) s.heap.objs.size f cdv)).units + 100 < cLine := by have := hr.un; omega
  have z1 : (100000 : Nat) ≤ sizeLine := by decide
  have sL := hL.sm hr2
  have sM := hM.sm hr2
  have lL := fold_len2 (tyL r L)
  have lM := fold_len2 (tyL r M)
  rw [tyL_len] at lL lM
  have l1 := hL.1
  have l2 := hM.1
  refine ⟨[.d (.tuple (L.map wbD)), .d (.tuple (M.map wbD)), .d (.int (r : Nat)), .d (dctD (cntD (tyL r L))), .d (dctD (cntD (tyL r M))), .un, .un, .un], ?_⟩
  refine db_cons (ds_par (i := 3) (j := 4) (d1 := dctD (cntD (tyL r L))) (d2 := dctD (cntD (tyL r M))) (ρ1 := [.d (.tuple (L.map wbD)), .d (.tuple (M.map wbD)), .d (.int (r : Nat)), .un, .un, .un, .un, .un]) rfl scLA.nd (da_cons (DF.de (df_callO gC hg (hr.mono (by omega)) D1.mg D1.kp D1.bd (ds := [.tuple (L.map wbD), .int r]) (b0 := .dk (cntD (tyL r L))) ⟨L, r, hr2, hL, rfl, rfl⟩ (da_cons (nv 0) (da_cons (nv 2) da_nil)))) (da_cons (DF.de (df_callO gC hg (hr.mono (by omega)) D1.mg D1.kp D1.bd (ds := [.tuple (M.map wbD), .int r]) (b0 := .dk (cntD (tyL r M))) ⟨M, r, hr2, hM, rfl, rfl⟩ (da_cons (nv 1) (da_cons (nv 2) da_nil)))) da_nil))) ?_
  refine db_at [.d (.tuple (L.map wbD)), .d (.tuple (M.map wbD)), .d (.int (r : Nat)), .d (dctD (cntD (tyL r L))), .d (dctD (cntD (tyL r M))), .un, .un, .un] rfl ?_
  have eo := ok_fold r (tyL r L) (tyL r M)
  rw [← eo]
  have kd : ∀ N : List Wb, (cntD (tyL r N)).map (fun kv => keyD kv.1) = ((tyL r N).foldl addK []).map fun k => PyData.str (txt k) := fun N => by
    unfold cntD ofK
    rw [List.map_map]; rfl
  refine db_forMap ((tyL r L).foldl addK [] ++ (tyL r M).foldl addK []) (fun k => .str (txt k)) (fitB r (tyL r L) (tyL r M)) (.bool false) PassesOwn.never rfl (di_is (by rw [kd, kd, List.map_append]) (di_list (DL.de (dl_catS (xs := (cntD (tyL r L)).map fun kv => keyD kv.1) (ys := (cntD (tyL r M)).map fun kv => keyD kv.1) (by rw [kd, kd, List.length_map, List.length_map]; omega) .d .d (DL.de (dl_dlist rfl .d T.list_ (nv 3))) (DL.de (dl_dlist rfl .d T.list_ (nv 4))))))) (fun k hk => ?_) (fun h => ?_) (fun h => ?_)
  · have hk' : Sm k := (List.mem_append.mp hk).elim (fun q => sL k (mem_fold.mp q)) (fun q => sM k (mem_fold.mp q))
    refine ⟨_, _, dg_name (i := 5) scLA.nd, fun h => ?_, fun h => ?_⟩
    · refine db_cons (ds_par (i := 6) (j := 7) (d1 := .int (cnt k (tyL r L) : Nat)) (d2 := .int (cnt k (tyL r M) : Nat)) (ρ1 := [.d (.tuple (L.map wbD)), .d (.tuple (M.map wbD)), .d (.int (r : Nat)), .d (dctD (cntD (tyL r L))), .d (dctD (cntD (tyL r M))), .d (.str (txt k)), .un, .un]) rfl scLA.nd (da_cons (de_is (de_dget2 (k := .inr (txt k)) hu .d .d (nv 3) (nv 5) de_int) (lk_cnt sL hk')) (da_cons (de_is (de_dget2 (k := .inr (txt k)) hu .d .d (nv 4) (nv 5) de_int) (lk_cnt sM hk')) da_nil))) ?_
      refine db_at [.d (.tuple (L.map wbD)), .d (.tuple (M.map wbD)), .d (.int (r : Nat)), .d (dctD (cntD (tyL r L))), .d (dctD (cntD (tyL r M))), .d (.str (txt k)), .d (.int (cnt k (tyL r L) : Nat)), .d (.int (cnt k (tyL r M) : Nat))] rfl ?_
      exact db_weak (db_ifF (ρ1 := [.d (.tuple (L.map wbD)), .d (.tuple (M.map wbD)), .d (.int (r : Nat)), .d (dctD (cntD (tyL r L))), .d (dctD (cntD (tyL r M))), .d (.str (txt k)), .d (.int (cnt k (tyL r L) : Nat)), .d (.int (cnt k (tyL r M) : Nat))]) (dt_is (DW.dt (dw_and (dt_neI (nv 6) (nv 7)) (fun _ => dw_and1 (dt_lt (de_min2 rfl T.min_ (da_cons (nv 6) (da_cons (nv 7) da_nil))) (nv 2))) (fun _ => rfl))) (by rw [fit_test, h]; rfl)) db_nil) (by first | exact G.Wk.refl _ | (repeat (first | exact G.Wk.nil | apply G.Wk.cons | apply G.Wk.drop)))
    · refine db_cons (ds_par (i := 6) (j := 7) (d1 := .int (cnt k (tyL r L) : Nat)) (d2 := .int (cnt k (tyL r M) : Nat)) (ρ1 := [.d (.tuple (L.map wbD)), .d (.tuple (M.map wbD)), .d (.int (r : Nat)), .d (dctD (cntD (tyL r L))), .d (dctD (cntD (tyL r M))), .d (.str (txt k)), .un, .un]) rfl scLA.nd (da_cons (de_is (de_dget2 (k := .inr (txt k)) hu .d .d (nv 3) (nv 5) de_int) (lk_cnt sL hk')) (da_cons (de_is (de_dget2 (k := .inr (txt k)) hu .d .d (nv 4) (nv 5) de_int) (lk_cnt sM hk')) da_nil))) ?_
      refine db_at [.d (.tuple (L.map wbD)), .d (.tuple (M.map wbD)), .d (.int (r : Nat)), .d (dctD (cntD (tyL r L))), .d (dctD (cntD (tyL r M))), .d (.str (txt k)), .d (.int (cnt k (tyL r L) : Nat)), .d (.int (cnt k (tyL r M) : Nat))] rfl ?_
      exact db_ifT (ρ1 := [.d (.tuple (L.map wbD)), .d (.tuple (M.map wbD)), .d (.int (r : Nat)), .d (dctD (cntD (tyL r L))), .d (dctD (cntD (tyL r M))), .d (.str (txt k)), .d (.int (cnt k (tyL r L) : Nat)), .d (.int (cnt k (tyL r M) : Nat))]) (dt_is (DW.dt (dw_and (dt_neI (nv 6) (nv 7)) (fun _ => dw_and1 (dt_lt (de_min2 rfl T.min_ (da_cons (nv 6) (da_cons (nv 7) da_nil))) (nv 2))) (fun _ => rfl))) (by rw [fit_test, h]; rfl)) (db_rtW (ρ1 := [.d (.tuple (L.map wbD)), .d (.tuple (M.map wbD)), .d (.int (r : Nat)), .d (dctD (cntD (tyL r L))), .d (dctD (cntD (tyL r M))), .d (.str (txt k)), .d (.int (cnt k (tyL r L) : Nat)), .d (.int (cnt k (tyL r M) : Nat))]) (db_one (ds_ret de_bl)) (by first | exact G.Wk.refl _ | (repeat (first | exact G.Wk.nil | apply G.Wk.cons | apply G.Wk.drop))))
  · rw [h]; exact db_one (ds_ret de_bl)
  · rw [h]
end
end G

set_option Elab.async false
set_option linter.all false
set_option maxRecDepth 100000
set_option maxHeartbeats 4000000
namespace G
open PySem L2 PySem.Spec PyProof.Rows
def psSum (ds : List PyData) (d : PyData) : Prop := ∃ (W V : Wb) (ah : Bool), W.n ≤ 20 ∧ V.n ≤ 20 ∧ W.arr.length ≤ 1000 ∧ V.arr.length ≤ 1000 ∧ W.col.length ≤ 100 ∧ V.col.length ≤ 100 ∧ ds = [wbD W, wbD V, .bool ah] ∧ d = wbD (sumW ah W V)
abbrev nSum : List Str := ["one", "other", "is_ahead", "n", "m", "arrows", "x", "y"]
def psSm2 (ah : Bool) (ds : List PyData) (d : PyData) : Prop := ∃ W V : Wb, W.n ≤ 20 ∧ V.n ≤ 20 ∧ W.arr.length ≤ 1000 ∧ V.arr.length ≤ 1000 ∧ W.col.length ≤ 100 ∧ V.col.length ≤ 100 ∧ ds = [wbD W, wbD V] ∧ d = wbD (sumW ah W V)
theorem ahL_take {n m : Nat} (k : Nat) (h : k < n) : ((names n).take (k + 1)).flatMap (fun x => (names m).map fun y => (x, (n : Int) + y)) = ((names n).take k).flatMap (fun x => (names m).map fun y => (x, (n : Int) + y)) ++ (names m).map fun y => ((k : Int), (n : Int) + y) := by
  have e : (names n)[k]? = some (k : Int) := by
    unfold names
    rw [List.getElem?_map, List.getElem?_range h]; rfl
  rw [List.take_add_one, e, List.flatMap_append]
  simp
theorem fm_len {n m : Nat} : ∀ l : List Int, (l.flatMap fun x => (names m).map fun y => (x, (n : Int) + y)).length ≤ l.length * m
  | [] => by simp
  | x :: l => by
    rw [List.flatMap_cons, List.length_append, List.length_map, names_len, List.length_cons, Nat.succ_mul]
    have := fm_len (n := n) (m := m) l
    omega
end G

set_option Elab.async false
set_option linter.all false
set_option maxRecDepth 100000
set_option maxHeartbeats 4000000
/- sums of webs, mixed rows, drawn rows and sides, walked -/
namespace G
open PySem L2 PySem.Spec PyProof.Rows
theorem scSum : FnScope nSum ["one", "other", "is_ahead"] (defScope s_summed) := ⟨rfl, rfl, rfl, by decide +kernel, rfl, by decide +kernel, by decide +kernel⟩
theorem scBsd : FnScope ["one", "other"] ["one", "other"] (defScope s_web_beside) := ⟨rfl, rfl, rfl, by decide +kernel, rfl, by decide +kernel, by decide +kernel⟩
section
variable {P : Program} {w : World} {K : PySem.W.Frag} {mg : Str → Option Value} {base : Heap}
theorem ok_sum {f : Addr} {fd : FuncData} (D : Df K mg "summed" s_summed f fd ["one", "other", "is_ahead"]) (T : Bt mg) : FnG P w K mg base 1 f fd ["one", "other", "is_ahead"] (spP K psSum) := by
  refine fnP_of D.fn scSum (fun ds d ⟨_, _, _, _, _, _, _, _, _, e, _⟩ => by rw [e]; rfl) ?_
  rintro cdv A outer s H E ds d hg hr ⟨W, V, ah, n20, m20, lW, lV, cW, cV, rfl, rfl⟩
  have hu : (A.deeper (envOfC "summed" (defScope s_summed) s.heap.objs.size f cdv)).units + 100 < cLine := by have := hr.un; omega
  have z1 : (100000 : Nat) ≤ sizeLine := by decide
  have e1 : pD W.arr ++ (V.arr.map (fun q => prD (shI W.n q)) ++ []) = pD (W.arr ++ V.arr.map (shI W.n)) := by
    rw [pD_app, List.append_nil, pD_eq (V.arr.map _), List.map_map]; rfl
  have lA : (W.arr ++ V.arr.map (shI W.n)).length ≤ 2000 := by rw [List.length_append, List.length_map]; omega
  refine ⟨[.d (wbD W), .d (wbD V), .d (.bool ah), .d (.int W.n), .d (.int V.n), .d (.list (pD (sumA ah W V))), .un, .un], ?_⟩
  refine db_cons (ds_asg (d := .tuple [.int W.n, .int V.n]) (js := [3, 4]) (ρ1 := [.d (wbD W), .d (wbD V), .d (.bool ah), .un, .un, .un, .un, .un]) (de_tup (da_cons (de_w0 (W := W) (nv 0)) (da_cons (de_w0 (W := V) (nv 1)) da_nil))) (dg_tup rfl (dgs_cons (dg_name (i := 3) scSum.nd) (dgs_cons (dg_name (i := 4) scSum.nd) dgs_nil)))) ?_
  refine db_at [.d (wbD W), .d (wbD V), .d (.bool ah), .d (.int W.n), .d (.int V.n), .un, .un, .un] rfl ?_
  refine db_cons (ds_set (i := 5) (y := .list (pD (W.arr ++ V.arr.map (shI W.n)))) (ρ1 := [.d (wbD W), .d (wbD V), .d (.bool ah), .d (.int W.n), .d (.int V.n), .un, .un, .un]) scSum.nd (DL.de (dl_is e1 (dl_lst (da_star (xs := pD W.arr) (de_w2 (W := W) (nv 0)) (da_starL (DL.de (dl_mapA V.arr prD (fun q => prD (shI W.n q)) [("x", 6), ("y", 7)] rfl scSum.nd (blkOk_by (N := nSum) (sc := defScope s_summed) (by decide +kernel)) (di_arr (nv 1)) (by (intro j hj; first | (cases hj with | head => rfl | tail _ h => cases h) | (cases hj with | head => rfl | tail _ h => cases h with | head => rfl | tail _ h => cases h) | (cases hj with | head => rfl | tail _ h => cases h with | head => rfl | tail _ h => cases h with | head => rfl | tail _ h => cases h))) (fun q hq => ?_) (by omega))) da_nil)) (by rw [List.length_append, List.length_append, pD_len, List.length_map]; simp only [List.length_nil]; omega))))) ?_
  · exact ⟨_, _, _, fun _ _ _ _ _ => dg_tup rfl (dgs_cons (dg_name (i := 6) scSum.nd) (dgs_cons (dg_name (i := 7) scSum.nd) dgs_nil)), fun _ _ _ _ _ => de_tup (xs := [.int ((W.n : Int) + q.1), .int ((W.n : Int) + q.2)]) (da_cons (de_add (nv 3) (nv 6)) (da_cons (de_add (nv 3) (nv 7)) da_nil)), by simp, by first | exact G.Wk.refl _ | (repeat (first | exact G.Wk.nil | apply G.Wk.cons | apply G.Wk.drop))⟩
  refine db_at [.d (wbD W), .d (wbD V), .d (.bool ah), .d (.int W.n), .d (.int V.n), .d (.list (pD (W.arr ++ V.arr.map (shI W.n)))), .un, .un] rfl ?_
  refine db_cons (ρ1 := [.d (wbD W), .d (wbD V), .d (.bool ah), .d (.int W.n), .d (.int V.n), .d (.list (pD (sumA ah W V))), .un, .un]) ?_ ?_
  · cases ah with
    | false =>
      have e : sumA false W V = W.arr ++ V.arr.map (shI W.n) := by unfold sumA; simp
      rw [e]
      exact ds_ifF (dt_val (nv 2)) db_nil
    | true =>
      have e : sumA true W V = W.arr ++ V.arr.map (shI W.n) ++ ahL W.n V.n := by unfold sumA; simp
      rw [e]
      generalize W.arr ++ V.arr.map (shI W.n) = L0 at lA ⊢
      refine ds_ifT (dt_val (nv 2)) (db_nx (ds_for PassesOwn.never rfl (di_names (n := W.n) T.range_ (by omega) (nv 3)) (fun k => [.d (wbD W), .d (wbD V), .d (.bool true), .d (.int W.n), .d (.int V.n), .d (.list (pD (L0 ++ ((names W.n).take k).flatMap (fun x => (names V.n).map fun y => (x, (W.n : Int) + y))))), .un, .un]) (by show Wk [.d (wbD W), .d (wbD V), .d (.bool true), .d (.int W.n), .d (.int V.n), .d (.list (pD L0)), .un, .un] [.d (wbD W), .d (wbD V), .d (.bool true), .d (.int W.n), .d (.int V.n), .d (.list (pD (L0 ++ []))), .un, .un]; rw [List.append_nil]; exact Wk.refl _) (fun k z hz => ?_) (ρ2 := [.d (wbD W), .d (wbD V), .d (.bool true), .d (.int W.n), .d (.int V.n), .d (.list (pD (L0 ++ ahL W.n V.n))), .un, .un]) (by rw [List.length_map, List.take_length]; rfl)) (by first | exact G.Wk.refl _ | (repeat (first | exact G.Wk.nil | apply G.Wk.cons | apply G.Wk.drop))))
      rw [← names_D] at hz
      obtain ⟨hk, rfl⟩ := range_get hz
      have lf := fm_len (n := W.n) (m := V.n) ((names W.n).take k)
      have lt := List.length_take_le' k (names W.n)
      rw [names_len] at lt
      have lm := Nat.mul_le_mul (Nat.le_trans lt n20) m20
      rw [ahL_take k hk]
      generalize ((names W.n).take k).flatMap (fun x => (names V.n).map fun y => (x, (W.n : Int) + y)) = L1 at lf ⊢
      refine ⟨_, _, dg_name (i := 6) scSum.nd, ?_⟩
      refine db_at [.d (wbD W), .d (wbD V), .d (.bool true), .d (.int W.n), .d (.int V.n), .d (.list (pD (L0 ++ L1))), .d (.int k), .un] rfl ?_
      have e2 : pD (L0 ++ L1) ++ (names V.n).map (fun y => prD ((k : Int), (W.n : Int) + y)) = pD (L0 ++ (L1 ++ (names V.n).map fun y => ((k : Int), (W.n : Int) + y))) := by
        rw [← List.append_assoc, pD_app (L0 ++ L1), pD_eq (List.map _ _), List.map_map]; rfl
      refine db_nx (ds_set (i := 5) (y := .list (pD (L0 ++ (L1 ++ (names V.n).map fun y => ((k : Int), (W.n : Int) + y))))) (ρ1 := [.d (wbD W), .d (wbD V), .d (.bool true), .d (.int W.n), .d (.int V.n), .d (.list (pD (L0 ++ L1))), .d (.int k), .un]) scSum.nd (DL.de (dl_is e2 (dl_catS (xs := pD (L0 ++ L1)) (ys := (names V.n).map fun y => prD ((k : Int), (W.n : Int) + y)) (by rw [pD_len, List.length_append, List.length_map, names_len]; omega) .d .d (nv 5) (DL.de (dl_mapA (names V.n) .int (fun y => prD ((k : Int), (W.n : Int) + y)) [("y", 7)] rfl scSum.nd (blkOk_by (N := nSum) (sc := defScope s_summed) (by decide +kernel)) (di_names T.range_ (by omega) (nv 4)) (by (intro j hj; first | (cases hj with | head => rfl | tail _ h => cases h) | (cases hj with | head => rfl | tail _ h => cases h with | head => rfl | tail _ h => cases h) | (cases hj with | head => rfl | tail _ h => cases h with | head => rfl | tail _ h => cases h with | head => rfl | tail _ h => cases h))) (fun y hy => ?_) (by rw [names_len]; omega))))))) (by first | exact G.Wk.refl _ | (repeat (first | exact G.Wk.nil | apply G.Wk.cons | apply G.Wk.drop)))
      exact ⟨_, _, _, fun _ _ _ _ _ => dg_name (i := 7) scSum.nd, fun _ _ _ _ _ => de_tup (xs := [.int k, .int ((W.n : Int) + y)]) (da_cons (nv 6) (da_cons (de_add (nv 3) (nv 7)) da_nil)), by simp, by first | exact G.Wk.refl _ | (repeat (first | exact G.Wk.nil | apply G.Wk.cons | apply G.Wk.drop))⟩
  · refine db_one (ds_ret (de_is (de_tup (xs := [.int ((W.n : Int) + V.n), .tuple (W.col.map .int ++ (V.col.map .int ++ [])), .tuple (pD (srtP (sumA ah W V)))]) (da_cons (de_add (nv 3) (nv 4)) (da_cons (de_tup (da_star (de_w1 (W := W) (nv 0)) (da_star (de_w1 (W := V) (nv 1)) da_nil)) (by rw [List.length_append, List.length_append, List.length_map, List.length_map]; simp only [List.length_nil]; omega)) (da_cons (de_sortP hu .d T.tuple_ T.sorted_ (nv 5)) da_nil)))) ?_))
    rw [List.append_nil, ← List.map_append]
    show PyData.tuple [.int ((W.n : Int) + (V.n : Int)), _, _] = .tuple [.int ((W.n + V.n : Nat) : Int), _, _]
    rw [Int.natCast_add]; rfl
theorem ok_bsd {f f1 : Addr} {fd fd1 : FuncData} (D : Df K mg "web_beside" s_web_beside f fd ["one", "other"]) (D1 : Df K mg "summed" s_summed f1 fd1 ["one", "other", "is_ahead"]) (T : Bt mg) : FnG P w K mg base 2 f fd ["one", "other"] (spP K (psSm2 false)) := by
  have gS := ok_sum (P := P) (w := w) (base := base) D1 T
  refine fnP_of D.fn scBsd (fun ds d ⟨_, _, _, _, _, _, _, _, e, _⟩ => by rw [e]; rfl) ?_
  rintro cdv A outer s H E ds d hg hr ⟨W, V, a1, a2, a3, a4, a5, a6, rfl, rfl⟩
  exact ⟨[.d (wbD W), .d (wbD V)], db_one (ds_ret (de_callP gS hg (hr.mono (by omega)) D1.mg D1.kp D1.bd (ds := [wbD W, wbD V, .bool false]) (d := wbD (sumW false W V)) ⟨W, V, false, a1, a2, a3, a4, a5, a6, rfl, rfl⟩ (da_cons (nv 0) (da_cons (nv 1) (da_cons de_bl da_nil)))))⟩
end
end G

set_option Elab.async false
set_option linter.all false
set_option maxRecDepth 100000
set_option maxHeartbeats 4000000
/- sums of many webs, walked -/
namespace G
open PySem L2 PySem.Spec PyProof.Rows
structure Gw (m : Nat) (W : Wb) : Prop extends Gd W where
  le : W.n ≤ m
  col : ∀ c ∈ W.col, 0 ≤ c ∧ c < 10
theorem Gw.sum {m k : Nat} {ah : Bool} {W V : Wb} (h : Gw m W) (g : Gw k V) : Gw (m + k) (sumW ah W V) where
  toGd := sum_gd h.toGd g.toGd
  le := Nat.add_le_add h.le g.le
  col c hc := (List.mem_append.mp hc).elim (h.col c) (g.col c)
theorem Gw.mono {m k : Nat} {W : Wb} (h : Gw m W) (hm : m ≤ k) : Gw k W := ⟨h.toGd, Nat.le_trans h.le hm, h.col⟩
theorem Gd.six {W : Wb} (h : Gd W) (hn : W.n ≤ 20) : W.arr.length ≤ 1000 ∧ W.col.length ≤ 100 := by
  have := Nat.le_trans h.al (Nat.mul_le_mul hn hn)
  have := h.lc
  exact ⟨by omega, by omega⟩
theorem sm2_of {ah : Bool} {W V : Wb} (h : Gd W) (g : Gd V) (hn : W.n ≤ 20) (gn : V.n ≤ 20) : psSm2 ah [wbD W, wbD V] (wbD (sumW ah W V)) := ⟨W, V, hn, gn, (h.six hn).1, (g.six gn).1, (h.six hn).2, (g.six gn).2, rfl, rfl⟩
def psAL (ah : Bool) (ds : List PyData) (d : PyData) : Prop := ∃ (W : Wb) (Ws : List Wb), Gd W ∧ (∀ V ∈ Ws, Gd V ∧ V.n ≤ 20) ∧ (sumL ah W Ws).n ≤ 20 ∧ ds = [.tuple (wbD W :: Ws.map wbD)] ∧ d = wbD (sumL ah W Ws)
abbrev nAL : List Str := ["webs", "found", "web"]
theorem scAB : FnScope nAL ["webs"] (defScope s_all_beside) := ⟨rfl, rfl, rfl, by decide +kernel, rfl, by decide +kernel, by decide +kernel⟩
theorem at_zero' (x : PyData) (l : List PyData) : atI (x :: l) 0 = some x := by
  unfold atI
  rw [ix_pos (Int.le_refl 0) (by rw [List.length_cons]; omega)]
  rfl
section
variable {P : Program} {w : World} {K : PySem.W.Frag} {mg : Str → Option Value} {base : Heap}
theorem ok_allb {f f1 f2 : Addr} {fd fd1 fd2 : FuncData} (D : Df K mg "all_beside" s_all_beside f fd ["webs"]) (D2 : Df K mg "web_beside" s_web_beside f2 fd2 ["one", "other"]) (D1 : Df K mg "summed" s_summed f1 fd1 ["one", "other", "is_ahead"]) (T : Bt mg) : FnG P w K mg base 3 f fd ["webs"] (spP K (psAL false)) := by
  have gB := ok_bsd (P := P) (w := w) (base := base) D2 D1 T
  refine fnP_of D.fn scAB (fun ds d ⟨_, _, _, _, _, e, _⟩ => by rw [e]; rfl) ?_
  rintro cdv A outer s H E ds d hg hr ⟨W, Ws, gW, gWs, hn, rfl, rfl⟩
  refine ⟨[.d (.tuple (wbD W :: Ws.map wbD)), .d (wbD (sumL false W Ws)), .un], ?_⟩
  refine db_cons (ds_set (i := 1) (y := wbD W) (ρ1 := [.d (.tuple (wbD W :: Ws.map wbD)), .un, .un]) scAB.nd (de_ixT (i := 0) (at_zero' _ _) (nv 0) de_int)) ?_
  refine db_at [.d (.tuple (wbD W :: Ws.map wbD)), .d (wbD (sumL false W (Ws.take 0))), .un] rfl ?_
  have ec : cutD (wbD W :: Ws.map wbD) (some 1) none = Ws.map wbD := by
    show cutD _ (some ((1 : Nat) : Int)) none = _
    rw [cutD_from]; rfl
  refine db_cons (ds_for PassesOwn.never rfl (di_tup (de_is (de_slT (xs := wbD W :: Ws.map wbD) (nv 0) (do_some de_int) do_none) (by rw [ec]))) (fun i => [.d (.tuple (wbD W :: Ws.map wbD)), .d (wbD (sumL false W (Ws.take i))), .un]) (Wk.refl _) (fun i z hz => ?_) (ρ2 := [.d (.tuple (wbD W :: Ws.map wbD)), .d (wbD (sumL false W Ws)), .un]) (by rw [List.length_map, List.take_length])) ?_
  · obtain ⟨V, hV, rfl⟩ : ∃ V, Ws[i]? = some V ∧ z = wbD V := by
      rw [List.getElem?_map] at hz
      cases e : Ws[i]? with
      | none => rw [e] at hz; cases hz
      | some c => rw [e] at hz; exact ⟨c, rfl, (Option.some.inj hz).symm⟩
    have mV := gWs V (List.mem_of_getElem? hV)
    have gS := sumL_gd (Ws := Ws.take i) (ah := false) gW fun U hU => (gWs U (List.mem_of_mem_take hU : U ∈ Ws)).1
    have nS := sumL_take (ah := false) (W := W) (Ws := Ws) i
    rw [List.take_add_one, hV, Option.toList_some, sumL_snoc]
    refine ⟨_, _, dg_name (i := 2) scAB.nd, ?_⟩
    refine db_at [.d (.tuple (wbD W :: Ws.map wbD)), .d (wbD (sumL false W (Ws.take i))), .d (wbD V)] rfl ?_
    exact db_nx (ds_set (i := 1) (ρ1 := [.d (.tuple (wbD W :: Ws.map wbD)), .d (wbD (sumL false W (Ws.take i))), .d (wbD V)]) scAB.nd (de_callP gB hg (hr.mono (by omega)) D2.mg D2.kp D2.bd (ds := [wbD (sumL false W (Ws.take i)), wbD V]) (d := (wbD (sumW false (sumL false W (Ws.take i)) V))) (sm2_of gS mV.1 (by omega) mV.2) (da_cons (nv 1) (da_cons (nv 2) da_nil)))) (by first | exact G.Wk.refl _ | (repeat (first | exact G.Wk.nil | apply G.Wk.cons | apply G.Wk.drop)))
  · exact db_one (ds_ret (nv 1))
end
end G

set_option Elab.async false
set_option linter.all false
set_option maxRecDepth 100000
set_option maxHeartbeats 4000000
/- draws one after another; tables of texts -/
namespace G
open PySem L2 PySem.Spec PyProof.Rows
theorem encT1_in {ks : List NestedKey} {c : Nat} (h : ∀ k ∈ ks, ∀ c ∈ enc k, c < 1114112) : (c ∈ encT ks → c < 1114112) ∧ (c ∈ encT1 ks → c < 1114112) := by
  have t : ∀ {ks : List NestedKey} {c : Nat}, (∀ k ∈ ks, ∀ c ∈ enc k, c < 1114112) → c ∈ encT ks → c < 1114112 := by
    intro ks
    induction ks with
    | nil =>
      intro c _ hc
      simp only [encT, List.mem_singleton] at hc
      omega
    | cons k ks ih =>
      intro c h hc
      simp only [encT, List.mem_cons, List.mem_append] at hc
      rcases hc with rfl | rfl | hc | hc
      · omega
      · omega
      · exact h k List.mem_cons_self c hc
      · exact ih (fun z hz => h z (List.mem_cons_of_mem _ hz)) hc
  refine ⟨t h, fun hc => ?_⟩
  cases ks with
  | nil =>
    simp only [encT1, List.mem_cons, List.not_mem_nil, or_false] at hc
    omega
  | cons k ks =>
    simp only [encT1, List.mem_cons, List.mem_append] at hc
    rcases hc with rfl | rfl | hc | hc
    · omega
    · omega
    · exact h k List.mem_cons_self c hc
    · exact t (fun z hz => h z (List.mem_cons_of_mem _ hz)) hc
theorem enc_small {k : NestedKey} (h : Sm k) : ∀ c ∈ enc k, c < 1114112 := by
  induction h with
  | num h0 h1 =>
    intro c hc
    simp only [enc, List.mem_singleton] at hc
    omega
  | @tup ks _ ih =>
    intro c hc
    simp only [enc, List.mem_cons] at hc
    rcases hc with rfl | hc
    · omega
    · cases ks with
      | nil =>
        simp only [encB, List.mem_singleton] at hc
        omega
      | cons k ks =>
        simp only [encB, List.mem_append] at hc
        rcases hc with hc | hc
        · exact ih k List.mem_cons_self c hc
        · exact (encT1_in fun z hz => ih z (List.mem_cons_of_mem _ hz)).2 hc
theorem txt_ok {k : NestedKey} (h : Sm k) : PyData.strOk (txt k) = true := by
  have e : tl (txt k) = enc k := shown_enc h
  have s := enc_small h
  rw [← e] at s
  unfold PyData.strOk
  rw [Array.all_eq_true']
  intro c hc
  exact decide_eq_true (s c (by simpa [tl] using hc))
theorem sx_str' {z : Str} (h : PyData.strOk z = true) : Sx 0 (.str z) := ⟨by simpa [PyData.canLay0] using h, by simp [PyData.depth]⟩
/-- texts with numbers -/
def txs (ks : List NestedKey) : PyData := .list ((onceT ks).map fun k => .tuple [.str (txt k), .int (cnt k ks : Nat)])
theorem txs_sh {ks : List NestedKey} (h : ∀ k ∈ ks, Sm k) : SeqAt.shaped (txs ks) = true := (sx_list (n := 1) fun d hd => by
  obtain ⟨k, hk, rfl⟩ := List.mem_map.mp hd
  refine sx_tup (n := 0) fun x hx => ?_
  simp only [List.mem_cons, List.not_mem_nil, or_false] at hx
  rcases hx with rfl | rfl
  · exact sx_str' (txt_ok (h k (mem_onceT.mp hk)))
  · exact sx_int).sh
theorem eqv_sh {d : PyData} (h : SeqAt.shaped d = true) : PyData.eqv d d = true := by
  have h' : (PyData.canLay0 d && decide (d.depth ≤ 64)) = true := h
  rw [Bool.and_eq_true] at h'
  exact PySem.SeqAt.eqv_refl d h'.1
/-! ### draws -/
def runG (f : Nat → Src → Wb × Src) : Nat → Src → List Wb × Src
  | 0, s => ([], s)
  | n + 1, s => ((runG f n s).1 ++ [(f n (runG f n s).2).1], (f n (runG f n s).2).2)
theorem runG_len {f : Nat → Src → Wb × Src} {s : Src} : ∀ n : Nat, (runG f n s).1.length = n
  | 0 => rfl
  | n + 1 => by
    unfold runG
    rw [List.length_append, runG_len n]; rfl
theorem runG_all {Pr : Wb → Prop} {f : Nat → Src → Wb × Src} {s : Src} : ∀ n : Nat, (∀ i, i < n → ∀ s, Pr (f i s).1) → ∀ W ∈ (runG f n s).1, Pr W
  | 0, _, W, hW => nomatch hW
  | n + 1, h, W, hW => by
    unfold runG at hW
    rcases List.mem_append.mp hW with q | q
    · exact runG_all n (fun i hi => h i (by omega)) W q
    · rw [List.mem_singleton.mp q]; exact h n (by omega) _
theorem runG_eq {f : Nat → Src → Wb × Src} {s : Src} : ∀ n : Nat, (List.range n).filterMap (fun i => some (wbD (f i (runG f i s).2).1)) = (runG f n s).1.map wbD
  | 0 => rfl
  | n + 1 => by
    rw [fm_succ, runG_eq n]
    show _ = List.map wbD ((runG f n s).1 ++ [_])
    rw [List.map_append]; rfl
def ofW (B : List Wb) (s : Src) : Wb × Src := (B.getD (pick s B.length).1.toNat zW, (pick s B.length).2)
theorem ofW_mem {B : List Wb} (h : 1 ≤ B.length) (s : Src) : (ofW B s).1 ∈ B := by
  have p := pick_in s (many := B.length) (by omega)
  unfold ofW
  rw [List.getD_eq_getElem?_getD, List.getElem?_eq_getElem (by omega)]
  exact List.getElem_mem _
theorem psOf_webs {st : Src} {B : List Wb} (h : 1 ≤ B.length) (hl : B.length ≤ 1000) : psOf st [.list (B.map wbD)] (wbD (ofW B st).1) (ofW B st).2 := by
  have p := pick_in st (many := B.length) (by omega)
  refine ⟨B.map wbD, by rw [List.length_map]; omega, by rw [List.length_map]; exact hl, rfl, ?_, ?_⟩
  · rw [List.length_map]
    unfold ofW
    rw [List.getD_eq_getElem?_getD, List.getD_eq_getElem?_getD, List.getElem?_map, List.getElem?_eq_getElem (by omega)]; rfl
  · rw [List.length_map]; rfl
/-- small webs, not many -/
def Ls (m : Nat) (L : List Wb) : Prop := 1 ≤ L.length ∧ L.length ≤ m ∧ ∀ W ∈ L, Rw 2 W
theorem Rw.gd {m : Nat} {W : Wb} (h : Rw m W) : Gd W := ⟨⟨h.lc, h.ins⟩, h.nd⟩
theorem Ls.ws {m r : Nat} {L : List Wb} (h : Ls m L) (hm : m ≤ 20) (hr : r ≤ 2) : Ws r L := ⟨Nat.le_trans h.2.1 hm, fun W hW => ⟨(h.2.2 W hW).dg (by decide), bR_ok _ _ (Nat.le_trans (h.2.2 W hW).hi (by decide)) (by omega)⟩⟩
theorem Ls.dg {m : Nat} {L : List Wb} (h : Ls m L) : ∀ W ∈ L, Dg W := fun W hW => (h.2.2 W hW).dg (by decide)
theorem Ls.sh {m k : Nat} {L M : List Wb} (h : Ls m L) (g : Ls k M) (hm : m ≤ 5) (hk : k ≤ 5) : Sh (.list [.tuple (L.map wbD), .tuple (M.map wbD)]) := by
  have one : ∀ {m : Nat} {L : List Wb}, Ls m L → m ≤ 5 → Bd 150013 4 (.tuple (L.map wbD)) := fun {m L} h hm => by
    refine (bd_tup (m := 30000) (d := 3) fun x hx => ?_).mono ?_ (Nat.le_refl _)
    · obtain ⟨W, hW, rfl⟩ := List.mem_map.mp hx
      exact web_bd (h.2.2 W hW) (by decide)
    · rw [List.length_map]
      have := Nat.mul_le_mul_right (30000 + 2) (Nat.le_trans h.2.1 hm)
      omega
  refine sh_list (m := 150013) (fun x hx => ?_) (by simp only [List.length_cons, List.length_nil]; decide)
  have q : Bd 150013 4 x := by
    simp only [List.mem_cons, List.not_mem_nil, or_false] at hx
    rcases hx with rfl | rfl
    · exact one h hm
    · exact one g hk
  exact ⟨q.sh, Nat.le_trans q.dp (by decide), q.ln⟩
theorem sumL_n2 : ∀ {L : List Wb} {A : Wb} {k : Nat}, (∀ W ∈ L, W.n ≤ 2) → A.n ≤ k → (sumL false A L).n ≤ k + 2 * L.length
  | [], A, k, _, h => by show A.n ≤ _; omega
  | W :: L, A, k, hL, h => by
    have q := sumL_n2 (L := L) (A := sumW false A W) (k := k + 2) (fun V hV => hL V (List.mem_cons_of_mem _ hV)) (by
      show A.n + W.n ≤ k + 2
      have := hL W List.mem_cons_self
      omega)
    show (sumL false (sumW false A W) L).n ≤ _
    rw [List.length_cons]; omega
theorem sumL_col : ∀ {L : List Wb} {A : Wb}, (∀ c ∈ A.col, 0 ≤ c ∧ c < 10) → (∀ W ∈ L, ∀ c ∈ W.col, 0 ≤ c ∧ c < 10) → ∀ c ∈ (sumL false A L).col, 0 ≤ c ∧ c < 10
  | [], _, h, _ => h
  | W :: L, A, h, hL => sumL_col (L := L) (A := sumW false A W) (fun c hc => (List.mem_append.mp hc).elim (h c) (hL W List.mem_cons_self c)) fun V hV => hL V (List.mem_cons_of_mem _ hV)
/-- what is laid of some: whole, and told by its size -/
theorem Ls.sum {m : Nat} {A : Wb} {L : List Wb} (h : Ls m (A :: L)) (hm : m ≤ 9) : Gd (sumL false A L) ∧ (sumL false A L).n ≤ 20 ∧ ((sumL false A L).n < 8 → Dg (sumL false A L)) := by
  have hA := h.2.2 A List.mem_cons_self
  have hL : ∀ W ∈ L, Rw 2 W := fun W hW => h.2.2 W (List.mem_cons_of_mem _ hW)
  have g := sumL_gd (ah := false) hA.gd fun W hW => (hL W hW).gd
  have n2 := sumL_n2 (L := L) (A := A) (k := 2) (fun W hW => (hL W hW).hi) hA.hi
  have l := h.2.1
  rw [List.length_cons] at l
  refine ⟨g, by omega, fun h8 => ⟨⟨by omega, g.lc⟩, by omega, sumL_col hA.col fun W hW => (hL W hW).col⟩⟩
theorem bR7 {n r : Nat} (hn : n < 8) (hr : r ≤ 2) : bR n r ≤ sizeLine := by
  have : ∀ (n : Fin 8) (r : Fin 3), bR n.1 r.1 ≤ sizeLine := by decide +kernel
  exact this ⟨n, hn⟩ ⟨r, by omega⟩
end G

set_option Elab.async false
set_option linter.all false
set_option maxRecDepth 100000
set_option maxHeartbeats 4000000
/- the game, walked; webs alike by all rows -/
namespace G
open PySem L2 PySem.Spec PyProof.Rows
theorem scIS : FnScope nIS ["one", "a", "other", "b"] (defScope s__law_is_same) := ⟨rfl, rfl, rfl, by decide +kernel, rfl, by decide +kernel, by decide +kernel⟩
theorem scIK : FnScope nIK ["one", "a", "other", "b", "r"] (defScope s__law_is_kept) := ⟨rfl, rfl, rfl, by decide +kernel, rfl, by decide +kernel, by decide +kernel⟩
section
variable {P : Program} {w : World} {K : PySem.W.Frag} {mg : Str → Option Value} {base : Heap}
theorem ok_is {f : Addr} {fd : FuncData} (D : Df K mg "_law_is_same" s__law_is_same f fd ["one", "a", "other", "b"]) (T : Bt mg) : FnG P w K mg base 1 f fd ["one", "a", "other", "b"] (spP K psIS) := by
  refine fnP_of D.fn scIS (fun ds d ⟨_, _, _, _, _, _, _, _, _, _, e, _⟩ => by rw [e]; rfl) ?_
  rintro cdv A outer s H E ds d hg hr ⟨W, V, a, b, hW, hV, ha, hb, hl, la, rfl, rfl⟩
  have hu : (A.deeper (envOfC "_law_is_same" (defScope s__law_is_same) s.heap.objs.size f cdv)).units + 65 < cLine := by have := hr.un; omega
  refine ⟨[.d (wbD W), .d (.tuple (a.map .int)), .d (wbD V), .d (.tuple (b.map .int)), .un, .un], ?_⟩
  have en : names b.length = names a.length := by rw [hl]
  have es : sameB W a V b = (names a.length).all fun x => decide (colAt W (gAt a x.toNat) = colAt V (gAt b x.toNat)) && (names a.length).all fun y => (decide (gAt a x.toNat = gAt a y.toNat) == decide (gAt b x.toNat = gAt b y.toNat)) && (decide ((gAt a x.toNat, gAt a y.toNat) ∈ W.arr) == decide ((gAt b x.toNat, gAt b y.toNat) ∈ V.arr)) := by
    unfold sameB
    rw [← names_all]
    congr 1
    funext x
    rw [← names_all]
  rw [es]
  refine db_forMap (names a.length) .int (fun x => decide (colAt W (gAt a x.toNat) = colAt V (gAt b x.toNat)) && (names a.length).all fun y => (decide (gAt a x.toNat = gAt a y.toNat) == decide (gAt b x.toNat = gAt b y.toNat)) && (decide ((gAt a x.toNat, gAt a y.toNat) ∈ W.arr) == decide ((gAt b x.toNat, gAt b y.toNat) ∈ V.arr))) (.bool false) PassesOwn.never rfl
    (di_names T.range_ (by omega) (de_is (de_len (xs := a.map .int) .t T.len_ (nv 1)) (by rw [List.length_map]))) (fun x hx => ?_) (fun h => by rw [h]; exact db_one (ds_ret de_bl)) (fun h => by rw [h]; rfl)
  have hx2 : x ∈ names b.length := by rw [en]; exact hx
  have x0 : x.toNat < a.length := by have := mem_names.mp hx; omega
  have gx := gAt_in ha x0
  have gx2 := gAt_in hb (by omega : x.toNat < b.length)
  refine ⟨_, _, dg_name (i := 4) scIS.nd, turn_all (ρa := [.d (wbD W), .d (.tuple (a.map .int)), .d (wbD V), .d (.tuple (b.map .int)), .d (.int x), .un]) (fun o ho hb' => ?_) (by first | exact G.Wk.refl _ | (repeat (first | exact G.Wk.nil | apply G.Wk.cons | apply G.Wk.drop)))⟩
  refine db_at [.d (wbD W), .d (.tuple (a.map .int)), .d (wbD V), .d (.tuple (b.map .int)), .d (.int x), .un] rfl ?_
  by_cases c : colAt W (gAt a x.toNat) = colAt V (gAt b x.toNat)
  · rw [decide_eq_true c, Bool.true_and] at ho hb'
    refine db_ifF (dt_is (dt_neI (de_wc hW gx (nv 0) (de_ixT (xs := a.map .int) (at_g hx) (nv 1) (nv 4))) (de_wc hV gx2 (nv 2) (de_ixT (xs := b.map .int) (at_g hx2) (nv 3) (nv 4)))) (by rw [decide_eq_true c]; rfl)) ?_
    refine db_forMap (names a.length) .int (fun y => (decide (gAt a x.toNat = gAt a y.toNat) == decide (gAt b x.toNat = gAt b y.toNat)) && (decide ((gAt a x.toNat, gAt a y.toNat) ∈ W.arr) == decide ((gAt b x.toNat, gAt b y.toNat) ∈ V.arr))) (.bool false) PassesOwn.never rfl
      (di_names T.range_ (by omega) (de_is (de_len (xs := a.map .int) .t T.len_ (nv 1)) (by rw [List.length_map]))) (fun y hy => ?_) (fun h => by rw [ho h]; exact db_nil) hb'
    have hy2 : y ∈ names b.length := by rw [en]; exact hy
    exact ⟨_, _, dg_name (i := 5) scIS.nd, turn_if (ρa := [.d (wbD W), .d (.tuple (a.map .int)), .d (wbD V), .d (.tuple (b.map .int)), .d (.int x), .d (.int y)]) (dt_is (DW.dt (dw_or (dt_neB (de_cmp op_eq od_eqI (nomark _) (de_ixT (xs := a.map .int) (at_g hx) (nv 1) (nv 4)) (de_ixT (xs := a.map .int) (at_g hy) (nv 1) (nv 5))) (de_cmp op_eq od_eqI (nomark _) (de_ixT (xs := b.map .int) (at_g hx2) (nv 3) (nv 4)) (de_ixT (xs := b.map .int) (at_g hy2) (nv 3) (nv 5)))) (fun _ => dw_or1 (dt_neB
      (de_is (de_inT (d := (pK (gAt a x.toNat, gAt a y.toNat)).data) hu (pl_shaped (pK_pl _) (Nat.le_trans (pK_depth _) (by decide))) (arr_shaped W.arr) (de_tup (xs := [.int (gAt a x.toNat), .int (gAt a y.toNat)]) (da_cons (de_ixT (xs := a.map .int) (at_g hx) (nv 1) (nv 4)) (da_cons (de_ixT (xs := a.map .int) (at_g hy) (nv 1) (nv 5)) da_nil))) (de_w2 (W := W) (nv 0))) (congrArg PyData.bool (in_arr W _ _)))
      (de_is (de_inT (d := (pK (gAt b x.toNat, gAt b y.toNat)).data) hu (pl_shaped (pK_pl _) (Nat.le_trans (pK_depth _) (by decide))) (arr_shaped V.arr) (de_tup (xs := [.int (gAt b x.toNat), .int (gAt b y.toNat)]) (da_cons (de_ixT (xs := b.map .int) (at_g hx2) (nv 3) (nv 4)) (da_cons (de_ixT (xs := b.map .int) (at_g hy2) (nv 3) (nv 5)) da_nil))) (de_w2 (W := V) (nv 2))) (congrArg PyData.bool (in_arr V _ _))))) (fun _ => rfl)))
      (by rw [Bool.not_and, bool_neq, bool_neq])) (db_one (ds_ret de_bl)) (by first | exact G.Wk.refl _ | (repeat (first | exact G.Wk.nil | apply G.Wk.cons | apply G.Wk.drop))) (by first | exact G.Wk.refl _ | (repeat (first | exact G.Wk.nil | apply G.Wk.cons | apply G.Wk.drop)))⟩
  · rw [decide_eq_false c, Bool.false_and] at hb'
    rw [hb' rfl]
    exact db_ifT (dt_is (dt_neI (de_wc hW gx (nv 0) (de_ixT (xs := a.map .int) (at_g hx) (nv 1) (nv 4))) (de_wc hV gx2 (nv 2) (de_ixT (xs := b.map .int) (at_g hx2) (nv 3) (nv 4)))) (by rw [decide_eq_false c]; rfl)) (db_one (ds_ret de_bl))
theorem ok_ik {f f1 : Addr} {fd fd1 : FuncData} (D : Df K mg "_law_is_kept" s__law_is_kept f fd ["one", "a", "other", "b", "r"]) (D1 : Df K mg "_law_is_same" s__law_is_same f1 fd1 ["one", "a", "other", "b"]) (T : Bt mg) : ∀ R : Nat, FnG P w K mg base (R + 2) f fd ["one", "a", "other", "b", "r"] (spP K (psIK R)) := by
  have gS := ok_is (P := P) (w := w) (base := base) D1 T
  intro R
  induction R with
  | zero =>
    refine fnP_of D.fn scIK (fun ds d ⟨_, _, _, _, _, _, _, _, _, _, _, _, e, _⟩ => by rw [e]; rfl) ?_
    rintro cdv A outer s H E ds d hg hr ⟨W, V, a, b, r, hR, hW, hV, ha, hb, hl, la, rfl, rfl⟩
    obtain rfl : r = 0 := by omega
    refine ⟨[.d (wbD W), .d (.tuple (a.map .int)), .d (wbD V), .d (.tuple (b.map .int)), .d (.int ((0 : Nat) : Int)), .un, .un, .un, .un], ?_⟩
    refine db_if (x := !sameB W a V b) (dt_not (dt_val (de_callP gS hg (hr.mono (by omega)) D1.mg D1.kp D1.bd (ds := [wbD W, .tuple (a.map .int), wbD V, .tuple (b.map .int)]) (d := .bool (sameB W a V b)) ⟨W, V, a, b, hW, hV, ha, hb, hl, by omega, rfl, rfl⟩ (da_cons (nv 0) (da_cons (nv 1) (da_cons (nv 2) (da_cons (nv 3) da_nil))))))) (fun h => ?_) (fun h => ?_) (fun _ _ z => nomatch z)
    · have e : sameB W a V b = false := by simpa using h
      show DB _ _ _ (.rt (.bool (sameB W a V b)) _)
      rw [e]
      exact (db_one (ds_ret de_bl))
    · have e : sameB W a V b = true := by simpa using h
      show DB _ _ _ (.rt (.bool (sameB W a V b)) _)
      rw [e]
      exact db_ifT (dt_eqIt (i := ((0 : Nat) : Int)) rfl (nv 4) de_int) (db_one (ds_ret de_bl))
  | succ R ih =>
    refine fnP_of D.fn scIK (fun ds d ⟨_, _, _, _, _, _, _, _, _, _, _, _, e, _⟩ => by rw [e]; rfl) ?_
    rintro cdv A outer s H E ds d hg hr ⟨W, V, a, b, r, hR, hW, hV, ha, hb, hl, la, rfl, rfl⟩
    have hu : (A.deeper (envOfC "_law_is_kept" (defScope s__law_is_kept) s.heap.objs.size f cdv)).units + 65 < cLine := by have := hr.un; omega
    have hw := Nat.lt_of_le_of_lt (Nat.add_le_add_left (by decide : 64 ≤ 65) _) hu
    have n9 := hW.n9
    have m9 := hV.n9
    have z1 : (1000 : Nat) ≤ sizeLine := by decide
    refine ⟨List.replicate 9 .un, ?_⟩
    refine db_rtW (ρ1 := [.d (wbD W), .d (.tuple (a.map .int)), .d (wbD V), .d (.tuple (b.map .int)), .d (.int ((r : Nat) : Int)), .un, .un, .un, .un]) ?_ (by first | exact G.Wk.refl _ | (repeat (first | exact G.Wk.nil | apply G.Wk.cons | apply G.Wk.drop)))
    refine db_if (x := !sameB W a V b) (dt_not (dt_val (de_callP gS hg (hr.mono (by omega)) D1.mg D1.kp D1.bd (ds := [wbD W, .tuple (a.map .int), wbD V, .tuple (b.map .int)]) (d := .bool (sameB W a V b)) ⟨W, V, a, b, hW, hV, ha, hb, hl, by omega, rfl, rfl⟩ (da_cons (nv 0) (da_cons (nv 1) (da_cons (nv 2) (da_cons (nv 3) da_nil))))))) (fun h => ?_) (fun h => ?_) (fun _ _ z => nomatch z)
    · have e : sameB W a V b = false := by simpa using h
      have ek : keptB W V r a b = false := bool_no fun z => by rw [kept_same z] at e; cases e
      rw [ek]
      exact (db_one (ds_ret de_bl))
    have e : sameB W a V b = true := by simpa using h
    cases r with
    | zero =>
      show DB _ _ _ (.rt (.bool (sameB W a V b)) _)
      rw [e]
      exact db_ifT (dt_eqIt (i := ((0 : Nat) : Int)) rfl (nv 4) de_int) (db_one (ds_ret de_bl))
    | succ r =>
    have ek : keptB W V (r + 1) a b = (((names W.n).all fun x => (names V.n).any fun y => keptB W V r (a ++ [x]) (b ++ [y])) && (names V.n).all fun y => (names W.n).any fun x => keptB W V r (a ++ [x]) (b ++ [y])) := by
      rw [keptB, e, Bool.true_and]
    rw [ek]
    clear ek
    refine db_ifF (ρ1 := [.d (wbD W), .d (.tuple (a.map .int)), .d (wbD V), .d (.tuple (b.map .int)), .d (.int (((r + 1 : Nat) : Int) : Int)), .un, .un, .un, .un]) (dt_eqIf (i := ((r + 1 : Nat) : Int)) (by omega) (nv 4) de_int) ?_
    refine db_cons (ds_setL (i := 5) (xs := []) scIK.nd (dl_lst da_nil)) ?_
    refine db_at [.d (wbD W), .d (.tuple (a.map .int)), .d (wbD V), .d (.tuple (b.map .int)), .d (.int (((r + 1 : Nat) : Int) : Int)), .o (.lst (((names W.n).take 0).map fun x => PyData.list ((names V.n).map fun y => .bool (keptB W V r (a ++ [x]) (b ++ [y]))))), .un, .un, .un] rfl ?_
    refine db_cons (ds_for PassesOwn.never rfl (di_names T.range_ (by omega) (de_w0 (W := W) (nv 0))) (fun m => [.d (wbD W), .d (.tuple (a.map .int)), .d (wbD V), .d (.tuple (b.map .int)), .d (.int (((r + 1 : Nat) : Int) : Int)), .o (.lst (((names W.n).take m).map fun x => PyData.list ((names V.n).map fun y => .bool (keptB W V r (a ++ [x]) (b ++ [y]))))), .un, .un, .un]) (Wk.refl _) (fun m z hz => ?_) (ρ2 := [.d (wbD W), .d (.tuple (a.map .int)), .d (wbD V), .d (.tuple (b.map .int)), .d (.int (((r + 1 : Nat) : Int) : Int)), .o (.lst ((names W.n).map fun x => PyData.list ((names V.n).map fun y => .bool (keptB W V r (a ++ [x]) (b ++ [y]))))), .un, .un, .un]) (by rw [List.length_map, List.take_length])) ?_
    · obtain ⟨x, hxm, rfl⟩ : ∃ x, (names W.n)[m]? = some x ∧ z = .int x := by
        rw [List.getElem?_map] at hz
        cases e : (names W.n)[m]? with
        | none => rw [e] at hz; cases hz
        | some c => rw [e] at hz; exact ⟨c, rfl, (Option.some.inj hz).symm⟩
      have hx : x ∈ names W.n := List.mem_of_getElem? hxm
      have lt := List.length_take_le' m (names W.n)
      rw [names_len] at lt
      refine ⟨_, _, dg_name (i := 6) scIK.nd, ?_⟩
      rw [List.take_add_one, hxm, List.map_append]
      refine db_at [.d (wbD W), .d (.tuple (a.map .int)), .d (wbD V), .d (.tuple (b.map .int)), .d (.int (((r + 1 : Nat) : Int) : Int)), .o (.lst (((names W.n).take m).map fun x => PyData.list ((names V.n).map fun y => .bool (keptB W V r (a ++ [x]) (b ++ [y]))))), .d (.int x), .un, .un] rfl ?_
      refine db_nx (ds_append (i := 5) (xs := ((names W.n).take m).map fun x => PyData.list ((names V.n).map fun y => .bool (keptB W V r (a ++ [x]) (b ++ [y])))) (y := .list ((names V.n).map fun y => .bool (keptB W V r (a ++ [x]) (b ++ [y])))) (by rw [List.length_map]; omega) (ow 5) (DL.de (dl_mapA (names V.n) .int (fun y => .bool (keptB W V r (a ++ [x]) (b ++ [y]))) [("y", 7)] rfl scIK.nd (blkOk_by (N := nIK) (sc := defScope s__law_is_kept) (by decide +kernel)) (di_names T.range_ (by omega) (de_w0 (W := V) (nv 2))) (by (intro j hj; first | (cases hj with | head => rfl | tail _ h => cases h) | (cases hj with | head => rfl | tail _ h => cases h with | head => rfl | tail _ h => cases h) | (cases hj with | head => rfl | tail _ h => cases h with | head => rfl | tail _ h => cases h with | head => rfl | tail _ h => cases h))) (fun y hy => ?_) (by rw [names_len]; omega)))) (by first | exact G.Wk.refl _ | (repeat (first | exact G.Wk.nil | apply G.Wk.cons | apply G.Wk.drop)))
      refine ⟨_, _, _, fun _ _ _ _ _ => dg_name (i := 7) scIK.nd, fun _ _ _ _ _ => (de_callP ih hg (hr.mono (by omega)) D.mg D.kp D.bd (ds := [wbD W, .tuple ((a ++ [x]).map .int), wbD V, .tuple ((b ++ [y]).map .int), .int r]) (d := .bool (keptB W V r (a ++ [x]) (b ++ [y]))) ⟨W, V, a ++ [x], b ++ [y], r, by omega, hW, hV, fun z hz => ?_, fun z hz => ?_, by simp [hl], by rw [List.length_append]; simp only [List.length_cons, List.length_nil]; omega, rfl, rfl⟩ (da_cons (nv 0) (da_cons (de_is (de_catT (xs := a.map .int) (ys := [.int x]) (by rw [List.length_map]; simp only [List.length_cons, List.length_nil]; omega) (nv 1) (de_tup (xs := [.int x]) (da_cons (nv 6) da_nil))) (by rw [List.map_append]; rfl)) (da_cons (nv 2) (da_cons (de_is (de_catT (xs := b.map .int) (ys := [.int y]) (by rw [List.length_map]; simp only [List.length_cons, List.length_nil]; omega) (nv 3) (de_tup (xs := [.int y]) (da_cons (nv 7) da_nil))) (by rw [List.map_append]; rfl)) (da_cons (de_is (de_sub (nv 4) de_int) (by congr 1; omega)) da_nil)))))), by simp, by first | exact G.Wk.refl _ | (repeat (first | exact G.Wk.nil | apply G.Wk.cons | apply G.Wk.drop))⟩
      · rcases List.mem_append.mp hz with hz | hz
        · exact ha z hz
        · rw [List.mem_singleton.mp hz]; exact hx
      · rcases List.mem_append.mp hz with hz | hz
        · exact hb z hz
        · rw [List.mem_singleton.mp hz]; exact hy
    refine db_still (i := 5) (xs := (names W.n).map fun x => PyData.list ((names V.n).map fun y => .bool (keptB W V r (a ++ [x]) (b ++ [y])))) ?_
    refine db_at [.d (wbD W), .d (.tuple (a.map .int)), .d (wbD V), .d (.tuple (b.map .int)), .d (.int (((r + 1 : Nat) : Int) : Int)), .d (.list ((names W.n).map fun x => PyData.list ((names V.n).map fun y => .bool (keptB W V r (a ++ [x]) (b ++ [y]))))), .un, .un, .un] rfl ?_
    refine db_rtW (ρ1 := [.d (wbD W), .d (.tuple (a.map .int)), .d (wbD V), .d (.tuple (b.map .int)), .d (.int (((r + 1 : Nat) : Int) : Int)), .d (.list ((names W.n).map fun x => PyData.list ((names V.n).map fun y => .bool (keptB W V r (a ++ [x]) (b ++ [y]))))), .un, .un, .un]) ?_ (by first | exact G.Wk.refl _ | (repeat (first | exact G.Wk.nil | apply G.Wk.cons | apply G.Wk.drop)))
    have shT : ∀ l : List Int, SeqAt.shaped (.list (l.map fun x => PyData.list ((names V.n).map fun y => .bool (keptB W V r (a ++ [x]) (b ++ [y]))))) = true := fun l => (sx_list (n := 1) fun d hd => by
      obtain ⟨x, _, rfl⟩ := List.mem_map.mp hd
      have := sx_bools ((names V.n).map fun y => keptB W V r (a ++ [x]) (b ++ [y]))
      rw [List.map_map] at this
      exact this).sh
    have shN : SeqAt.shaped (.list []) = true := by decide +kernel
    refine db_if (x := !((names W.n).all fun x => (names V.n).any fun y => keptB W V r (a ++ [x]) (b ++ [y]))) (dt_is (dt_neD hw (shT ((names W.n).filter fun x => !(names V.n).any fun y => keptB W V r (a ++ [x]) (b ++ [y]))) shN (DL.de (dl_filtA (names W.n) (fun x => PyData.list ((names V.n).map fun y => .bool (keptB W V r (a ++ [x]) (b ++ [y])))) (fun x => PyData.list ((names V.n).map fun y => .bool (keptB W V r (a ++ [x]) (b ++ [y])))) (fun x => !(names V.n).any fun y => keptB W V r (a ++ [x]) (b ++ [y])) [("row", 8)] rfl scIK.nd (blkOk_by (N := nIK) (sc := defScope s__law_is_kept) (by decide +kernel)) (di_list (nv 5)) (by (intro j hj; first | (cases hj with | head => rfl | tail _ h => cases h) | (cases hj with | head => rfl | tail _ h => cases h with | head => rfl | tail _ h => cases h) | (cases hj with | head => rfl | tail _ h => cases h with | head => rfl | tail _ h => cases h with | head => rfl | tail _ h => cases h))) (fun x hx => ?_) (by rw [names_len]; omega))) (DL.de (dl_lst da_nil))) ?_) (fun h => ?_) (fun h => ?_) (fun _ _ z => nomatch z)
    · have q := any_true2 (names V.n) fun y => keptB W V r (a ++ [x]) (b ++ [y])
      have sb := (sx_bools ((names V.n).map fun y => keptB W V r (a ++ [x]) (b ++ [y]))).sh
      rw [List.map_map] at sb
      exact ⟨_, _, _, _, fun _ _ _ _ _ => dg_name (i := 8) scIK.nd, fun _ _ _ _ _ => dt_is (dt_notInL (d := .bool true) (ds := (names V.n).map fun y => .bool (keptB W V r (a ++ [x]) (b ++ [y]))) hu sx_bool.sh sb de_bl (nv 8)) (congrArg (fun z => !z) q), fun _ _ _ _ _ _ => nv 8, by simp, by first | exact G.Wk.refl _ | (repeat (first | exact G.Wk.nil | apply G.Wk.cons | apply G.Wk.drop)), by first | exact G.Wk.refl _ | (repeat (first | exact G.Wk.nil | apply G.Wk.cons | apply G.Wk.drop))⟩
    · rw [nil_eqv, map_empty, filter_none]
    · have e1 : ((names W.n).all fun x => (names V.n).any fun y => keptB W V r (a ++ [x]) (b ++ [y])) = false := by simpa using h
      rw [e1, Bool.false_and]
      exact (db_one (ds_ret de_bl))
    have e1 : ((names W.n).all fun x => (names V.n).any fun y => keptB W V r (a ++ [x]) (b ++ [y])) = true := by simpa using h
    rw [e1, Bool.true_and]
    refine db_one (ds_ret (de_is (de_eqD hw (ints_sh' ((names V.n).filter fun y => !(names W.n).any fun x => keptB W V r (a ++ [x]) (b ++ [y]))) shN (DL.de (dl_filtA (names V.n) .int .int (fun y => !(names W.n).any fun x => keptB W V r (a ++ [x]) (b ++ [y])) [("y", 7)] rfl scIK.nd (blkOk_by (N := nIK) (sc := defScope s__law_is_kept) (by decide +kernel)) (di_names T.range_ (by omega) (de_w0 (W := V) (nv 2))) (by (intro j hj; first | (cases hj with | head => rfl | tail _ h => cases h) | (cases hj with | head => rfl | tail _ h => cases h with | head => rfl | tail _ h => cases h) | (cases hj with | head => rfl | tail _ h => cases h with | head => rfl | tail _ h => cases h with | head => rfl | tail _ h => cases h))) (fun y hy => ?_) (by rw [names_len]; omega))) (DL.de (dl_lst da_nil))) ?_))
    · have q := any_true2 (names W.n) fun x => keptB W V r (a ++ [x]) (b ++ [y])
      have sb := (sx_bools ((names W.n).map fun x => keptB W V r (a ++ [x]) (b ++ [y]))).sh
      rw [List.map_map] at sb
      refine ⟨_, _, _, _, fun _ _ _ _ _ => dg_name (i := 7) scIK.nd, fun _ _ _ _ _ => dt_is (dt_notInL (d := .bool true) (ds := (names W.n).map fun x => .bool (keptB W V r (a ++ [x]) (b ++ [y]))) hu sx_bool.sh sb de_bl (DL.de (dl_mapA (names W.n) (fun x => PyData.list ((names V.n).map fun y => .bool (keptB W V r (a ++ [x]) (b ++ [y])))) (fun x => .bool (keptB W V r (a ++ [x]) (b ++ [y]))) [("row", 8)] rfl scIK.nd ⟨rfl, by decide +kernel, fun p hp => (by cases hp with | head => rfl | tail _ h => cases h), ?_, ?_⟩ (di_list (nv 5)) (by (intro j hj; first | (cases hj with | head => rfl | tail _ h => cases h) | (cases hj with | head => rfl | tail _ h => cases h with | head => rfl | tail _ h => cases h) | (cases hj with | head => rfl | tail _ h => cases h with | head => rfl | tail _ h => cases h with | head => rfl | tail _ h => cases h))) (fun x hx => ?_) (by rw [names_len]; omega)))) (congrArg (fun z => !z) q), fun _ _ _ _ _ _ => nv 7, by simp, by first | exact G.Wk.refl _ | (repeat (first | exact G.Wk.nil | apply G.Wk.cons | apply G.Wk.drop)), by first | exact G.Wk.refl _ | (repeat (first | exact G.Wk.nil | apply G.Wk.cons | apply G.Wk.drop))⟩
      · intro y hy e
        simp only [List.mem_cons, List.not_mem_nil, or_false] at hy
        rcases hy with rfl | rfl | rfl <;> first | exact .inl rfl | exact .inr rfl | cases e
      · intro y hy e
        simp only [List.mem_cons, List.not_mem_nil, or_false] at hy
        rcases hy with rfl | rfl | rfl <;> first
          | exact .inl (by decide)
          | exact .inr (show ¬ (PySem.Str.ofString ".0") ∈ nIK by decide +kernel)
          | (rcases e with e | e <;> cases e)
      · exact ⟨_, _, _, fun _ _ _ _ _ => dg_name (i := 8) scIK.nd, fun _ _ _ _ _ => de_ixL .d (at_names' (fun y => PyData.bool (keptB W V r (a ++ [x]) (b ++ [y]))) hy) (nv 8) (nv 7), by simp, by first | exact G.Wk.refl _ | (repeat (first | exact G.Wk.nil | apply G.Wk.cons | apply G.Wk.drop))⟩
    · rw [nil_eqv, map_empty, filter_none]
end
end G

set_option Elab.async false
set_option linter.all false
set_option maxRecDepth 100000
set_option maxHeartbeats 4000000
/- ends that are some environment; and, or as values; drawn webs are nets -/
namespace G
open PySem L2 PySem.Spec PyProof.Rows
/-- statements that go on in some environment of a kind -/
theorem eqv_prD (p q : Int × Int) : PyData.eqv (prD p) (prD q) = decide (p = q) := by
  have h := eqv_nk (pK p) (pK q)
  have e : (pK p).data = prD p := rfl
  have e' : (pK q).data = prD q := rfl
  rw [e, e'] at h
  rw [h, Bool.eq_iff_iff, decide_eq_true_iff, decide_eq_true_iff]
  exact ⟨pK_inj, fun z => by rw [z]⟩
theorem prD_shaped (p : Int × Int) : SeqAt.shaped (prD p) = true := by
  simp [prD, SeqAt.shaped, PyData.canLay0, PyData.canLayAll0, PyData.depth, PyData.depthAll]
end G

set_option Elab.async false
set_option linter.all false
set_option maxRecDepth 100000
set_option maxHeartbeats 4000000
namespace G
open PySem L2 PySem.Spec PyProof.Rows
def otherR (most : Nat) (W : Wb) (s : Src) : Wb × Src :=
  if (pick s 6).1 = 0 then calS W (pick s 6).2
  else if ((pick s 6).1 = 1 ∨ (pick s 6).1 = 2) ∧ 1 < W.n then
    (⟨W.n, (calS W (pick s 6).2).1.col, onceP (if ((anyS (names W.n) (calS W (pick s 6).2).2).1.getD 0 0, (anyS (names W.n) (calS W (pick s 6).2).2).1.getD 1 0) ∈ (calS W (pick s 6).2).1.arr then (calS W (pick s 6).2).1.arr.filter (fun z => !decide (z = ((anyS (names W.n) (calS W (pick s 6).2).2).1.getD 0 0, (anyS (names W.n) (calS W (pick s 6).2).2).1.getD 1 0)))
      else (calS W (pick s 6).2).1.arr.filter (fun z => !decide (z = ((anyS (names W.n) (calS W (pick s 6).2).2).1.getD 0 0, (anyS (names W.n) (calS W (pick s 6).2).2).1.getD 1 0))) ++ [((anyS (names W.n) (calS W (pick s 6).2).2).1.getD 0 0, (anyS (names W.n) (calS W (pick s 6).2).2).1.getD 1 0)])⟩, (anyS (names W.n) (calS W (pick s 6).2).2).2)
  else if (pick s 6).1 = 3 then
    (⟨W.n, (calS W (pick s 6).2).1.col.take (pick (calS W (pick s 6).2).2 W.n).1.toNat ++ [(pick (pick (calS W (pick s 6).2).2 W.n).2 2).1] ++ (calS W (pick s 6).2).1.col.drop ((pick (calS W (pick s 6).2).2 W.n).1.toNat + 1), (calS W (pick s 6).2).1.arr⟩, (pick (pick (calS W (pick s 6).2).2 W.n).2 2).2)
  else if (pick s 6).1 = 4 ∧ W.n < most then
    (⟨W.n + 1, (calS W (pick s 6).2).1.col ++ (calS W (pick s 6).2).1.col.take 1, (calS W (pick s 6).2).1.arr⟩, (calS W (pick s 6).2).2)
  else webR most (calS W (pick s 6).2).2
theorem otherR_rw {most : Nat} {W : Wb} (m1 : 1 ≤ most) (m2 : most ≤ 9) (hW : Rw most W) (s : Src) : Rw most (otherR most W s).1 := by
  have hC := calS_rw hW (pick s 6).2
  have hn : (calS W (pick s 6).2).1.n = W.n := rfl
  unfold otherR
  generalize calS W (pick s 6).2 = C at hC hn ⊢
  obtain ⟨C, s2⟩ := C
  dsimp only at hC hn ⊢
  have lC : C.col.length = W.n := by rw [← hn]; exact hC.lc
  have iC : ∀ p ∈ C.arr, p.1 ∈ names W.n ∧ p.2 ∈ names W.n := fun p hp => by
    have := hC.ins p hp
    rw [hn] at this; exact this
  have l0 := hW.lo
  split
  · exact hC
  split
  · rename_i c
    have hp := anyS_perm (names W.n) s2
    generalize anyS (names W.n) s2 = r at hp
    obtain ⟨p, s3⟩ := r
    dsimp only at hp ⊢
    have a0 := permAt hp (x := 0) (mem_names.mpr ⟨by omega, by omega⟩)
    have a1 := permAt hp (x := 1) (mem_names.mpr ⟨by omega, by omega⟩)
    refine ⟨hW.lo, hW.hi, lC, hC.col, fun q hq => ?_, onceP_nodup _⟩
    have q' := mem_onceP.mp hq
    split at q'
    · exact iC q (List.mem_filter.mp q').1
    · rcases List.mem_append.mp q' with q' | q'
      · exact iC q (List.mem_filter.mp q').1
      · rw [List.mem_singleton.mp q']; exact ⟨a0, a1⟩
  split
  · have qk := pick_in s2 (many := (W.n : Int)) (by omega)
    have qv := pick_in (pick s2 W.n).2 (many := 2) (by decide)
    refine ⟨hW.lo, hW.hi, ?_, fun c hc => ?_, iC, hC.nd⟩
    · show List.length (_ ++ _ ++ _) = W.n
      rw [List.length_append, List.length_append, List.length_take, List.length_drop, lC]
      simp only [List.length_cons, List.length_nil]
      omega
    · rcases List.mem_append.mp hc with hc | hc
      · rcases List.mem_append.mp hc with hc | hc
        · exact hC.col c (List.mem_of_mem_take hc)
        · rw [List.mem_singleton.mp hc]
          omega
      · exact hC.col c (List.mem_of_mem_drop hc)
  split
  · rename_i c
    refine ⟨Nat.le_add_left 1 _, c.2, ?_, fun z hz => ?_, fun p hp => ?_, hC.nd⟩
    · show List.length (_ ++ _) = W.n + 1
      rw [List.length_append, List.length_take, lC]
      omega
    · rcases List.mem_append.mp hz with hz | hz
      · exact hC.col z hz
      · exact hC.col z (List.mem_of_mem_take hz)
    · exact ⟨names_mono (Nat.le_succ _) (iC p hp).1, names_mono (Nat.le_succ _) (iC p hp).2⟩
  · exact webR_rw m1 m2 _
def psOth (st : Src) (ds : List PyData) (d : PyData) (st' : Src) : Prop := ∃ (most : Nat) (W : Wb), 1 ≤ most ∧ most ≤ 9 ∧ Rw most W ∧ ds = [wbD W, .int most] ∧ d = wbD (otherR most W st).1 ∧ st' = (otherR most W st).2
abbrev nOth : List Str := ["source", "web", "most", "way", "n", "colors", "arrows", "a", "b", "some", "pair", "k"]
theorem scOth : FnScope nOth ["source", "web", "most"] (defScope s__law_other) := ⟨rfl, rfl, rfl, by decide +kernel, rfl, by decide +kernel, by decide +kernel⟩
end G

set_option Elab.async false
set_option linter.all false
set_option maxRecDepth 100000
set_option maxHeartbeats 4000000
namespace G
open PySem L2 PySem.Spec PyProof.Rows
def psAny (st : Src) (ds : List PyData) (d : PyData) (st' : Src) : Prop := ∃ xs : List PyData, xs.length ≤ 1000 ∧ ds = [.list xs] ∧ d = .list (anyS xs st).1 ∧ st' = (anyS xs st).2
abbrev nAny : List Str := ["source", "things", "others", "lap"]
theorem scAny : FnScope nAny ["source", "things"] (defScope sAny) := ⟨rfl, rfl, rfl, by decide +kernel, rfl, by decide +kernel, by decide +kernel⟩
section
variable {P : Program} {w : World} {K : PySem.W.Frag} {mg : Str → Option Value} {base : Heap}
theorem ok_any {f f1 : Addr} {fd fd1 : FuncData} (D : Df K mg "_law_mixed" sAny f fd ["source", "things"]) (D1 : Df K mg "_law_pick" sPickB f1 fd1 ["source", "most"]) (T : Bt mg) : FnG P w K mg base 2 f fd ["source", "things"] (spS K psAny) := by
  refine fnS_of D.fn scAny (fun st ds d st' ⟨_, _, e, _⟩ => by rw [e]; rfl) ?_
  rintro cdv A outer s H E sa s0 ds d st' hg hr ⟨xs, hz, rfl, rfl, rfl⟩
  have ih := ok_pickB (P := P) (w := w) (base := base) D1 T
  have z1 : (4000 : Nat) ≤ sizeLine := by decide
  have hl := fun n => anyRun_len xs s0 n
  refine ⟨[.o (.src sa (anyS xs s0).2), .d (.list xs), .o (.lst (anyRun xs s0 xs.length).2.1), .un], rfl, ?_⟩
  refine db_cons (ds_setL (i := 2) (xs := xs) scAny.nd (dl_list (.l .d) T.list_ (nv 1))) ?_
  refine db_at [.o (.src sa s0), .d (.list xs), .o (.lst xs), .un] rfl ?_
  have eo : ∀ n, n ≤ xs.length → (List.range n).filterMap (fun i => (anyRun xs s0 i).2.1[(pick (anyRun xs s0 i).2.2 (anyRun xs s0 i).2.1.length).1.toNat]?) = (anyRun xs s0 n).1 := by
    intro n hn
    induction n with
    | zero => rfl
    | succ n ihn =>
      have q := pick_in (anyRun xs s0 n).2.2 (many := ((anyRun xs s0 n).2.1.length : Int)) (by have := hl n (by omega); omega)
      have hk : (pick (anyRun xs s0 n).2.2 (anyRun xs s0 n).2.1.length).1.toNat < (anyRun xs s0 n).2.1.length := by omega
      rw [List.range_succ, List.filterMap_append, ihn (by omega)]
      show _ = (anyRun xs s0 n).1 ++ _
      congr 1
  refine db_one (ds_ret (DL.de (dl_is ?_ (dl_lc (own := [("lap", 3)]) rfl scAny.nd (blkOk_by (N := nAny) (sc := defScope sAny) (by decide +kernel))
    (di_range (n := (xs.length : Int)) T.range_ (by omega) (da_cons (de_len (.l (.o (i := 2) rfl)) T.len_ (ow 2)) da_nil))
    (fun i => [.o (.src sa (anyRun xs s0 i).2.2), .d (.list xs), .o (.lst (anyRun xs s0 i).2.1), .un]) (fun i => (anyRun xs s0 i).2.1[(pick (anyRun xs s0 i).2.2 (anyRun xs s0 i).2.1.length).1.toNat]?) (fun i x hx => ?_) (Wk.refl _) (fun i => Wk.refl _) (ρ' := [.o (.src sa (anyS xs s0).2), .d (.list xs), .o (.lst (anyRun xs s0 xs.length).2.1), .un]) ?_ ?_))))
  · rw [rangeD_len, Int.toNat_natCast]
    exact eo _ (Nat.le_refl _)
  · obtain ⟨hi, rfl⟩ := range_get hx
    have l1 := hl i (by omega)
    have l2 := hl (i + 1) (by omega)
    have q := pick_in (anyRun xs s0 i).2.2 (many := ((anyRun xs s0 i).2.1.length : Int)) (by omega)
    show LcT _ _ _ _ _ _ _ _ _ [.o (.src sa (pick (anyRun xs s0 i).2.2 (anyRun xs s0 i).2.1.length).2), .d (.list xs), .o (.lst ((anyRun xs s0 i).2.1.eraseIdx (pick (anyRun xs s0 i).2.2 (anyRun xs s0 i).2.1.length).1.toNat)), .un]
    generalize (anyRun xs s0 i).2.2 = si at q ⊢
    generalize (anyRun xs s0 i).2.1 = re at l1 q ⊢
    generalize hp : pick si re.length = p at q ⊢
    obtain ⟨z, sp⟩ := p
    dsimp only at q ⊢
    have hk : z.toNat < re.length := by omega
    rw [List.getElem?_eq_getElem hk]
    refine LcT.map (js := [3]) (by simp) (fun _ _ _ _ _ => dg_name (i := 3) scAny.nd) (fun _ _ _ _ _ => de_popAt (i := 2) (xs := re) (z := z) (k := z.toNat) (by omega) (by omega) (List.getElem?_eq_getElem hk) (ow 2) (de_callS (i := 0) ih hg (hr.mono (by omega)) D1.mg D1.kp D1.bd (ds := [.int re.length]) (d := .int z) (sr' := sp) ⟨re.length, by omega, rfl, by rw [hp], by rw [hp]⟩ (ow 0) (da_cons (de_len (.l (.o (i := 2) rfl)) T.len_ (ow 2)) da_nil))) (by first | exact G.Wk.refl _ | (repeat (first | exact G.Wk.nil | apply G.Wk.cons | apply G.Wk.drop)))
  · rw [rangeD_len, Int.toNat_natCast]
    exact mrg_un rfl (by (intro j hj; first | (cases hj with | head => rfl | tail _ h => cases h) | (cases hj with | head => rfl | tail _ h => cases h with | head => rfl | tail _ h => cases h) | (cases hj with | head => rfl | tail _ h => cases h with | head => rfl | tail _ h => cases h with | head => rfl | tail _ h => cases h)))
  · rw [rangeD_len, Int.toNat_natCast]
    omega
end
end G

set_option Elab.async false
set_option linter.all false
set_option maxRecDepth 100000
set_option maxHeartbeats 4000000
namespace G
open PySem L2 PySem.Spec PyProof.Rows
def psCal (st : Src) (ds : List PyData) (d : PyData) (st' : Src) : Prop := ∃ W : Wb, Rw 9 W ∧ ds = [wbD W] ∧ d = wbD (calS W st).1 ∧ st' = (calS W st).2
abbrev nCal : List Str := ["source", "web", "names", "colors", "a", "color", "b"]
theorem scCal : FnScope nCal ["source", "web"] (defScope s__law_called) := ⟨rfl, rfl, rfl, by decide +kernel, rfl, by decide +kernel, by decide +kernel⟩
section
variable {P : Program} {w : World} {K : PySem.W.Frag} {mg : Str → Option Value} {base : Heap}
theorem ok_cal {f f1 f2 f3 : Addr} {fd fd1 fd2 fd3 : FuncData} (D : Df K mg "_law_called" s__law_called f fd ["source", "web"]) (D2 : Df K mg "_law_mixed" sAny f2 fd2 ["source", "things"]) (D1 : Df K mg "_law_pick" sPickB f1 fd1 ["source", "most"]) (D3 : Df K mg "_law_told_web" s__law_told_web f3 fd3 ["n", "colors", "arrows"]) (T : Bt mg) : FnG P w K mg base 3 f fd ["source", "web"] (spS K psCal) := by
  have gAny := ok_any (P := P) (w := w) (base := base) D2 D1 T
  have gTW := ok_tw (P := P) (w := w) (base := base) D3 T
  refine fnS_of D.fn scCal (fun st ds d st' ⟨_, _, e, _⟩ => by rw [e]; rfl) ?_
  rintro cdv A outer s H E sa s0 ds d st' hg hr ⟨W, hW, rfl, rfl, rfl⟩
  have hu : (A.deeper (envOfC "_law_called" (defScope s__law_called) s.heap.objs.size f cdv)).units + 100 < cLine := by have := hr.un; omega
  have z1 : (100000 : Nat) ≤ sizeLine := by decide
  have n9 := hW.hi
  have lc := hW.lc
  have la := hW.la (Nat.le_refl 9)
  have hp := anyS_perm (names W.n) s0
  have em : anyS ((names W.n).map PyData.int) s0 = ((anyS (names W.n) s0).1.map .int, (anyS (names W.n) s0).2) := anyS_map _ _ _
  unfold calS
  generalize anyS (names W.n) s0 = ps at hp em
  obtain ⟨p, s1⟩ := ps
  dsimp only at hp em ⊢
  have lp : p.length = W.n := by rw [hp.length_eq, names_len]
  refine ⟨[.o (.src sa s1), .d (wbD W), .d (.list (p.map .int)), .d (.list ((calC p W.col W.n).map .int)), .un, .un, .un], rfl, ?_⟩
  refine db_cons (ds_asg2 (i := 2) (j := 3) (d1 := .list (p.map .int)) (ys := (calC p W.col 0).map .int) (ρ1 := [.o (.src sa s1), .d (wbD W), .un, .un, .un, .un, .un]) (ρ2 := [.o (.src sa s1), .d (wbD W), .un, .un, .un, .un, .un]) rfl scCal.nd (de_callS (i := 0) gAny hg (hr.mono (by omega)) D2.mg D2.kp D2.bd (ds := [.list (rangeD 0 ((W.n : Int)).toNat)]) (d := .list (p.map .int)) (sr' := s1) ⟨rangeD 0 ((W.n : Int)).toNat, by rw [rangeD_len]; omega, rfl, by rw [names_D, em], by rw [names_D, em]⟩ (ow 0) (da_cons (DL.de (dl_listRg (n := (W.n : Int)) rfl T.list_ T.range_ (by omega) (de_w0 (W := W) (nv 1)))) da_nil))
    (dl_is ?_ (dl_rep (k := (W.n : Int)) (by omega) (by omega) (by simp only [List.length_cons, List.length_nil]; omega) (dl_lst (xs := [.int 0]) (da_cons de_int da_nil)) (de_w0 (W := W) (nv 1)))) (by decide)) ?_
  · rw [Int.toNat_natCast, rep0]
    show _ = (List.replicate W.col.length (0 : Int)).map _
    rw [lc]
  refine db_at [.o (.src sa s1), .d (wbD W), .d (.list (p.map .int)), .o (.lst ((calC p W.col 0).map .int)), .un, .un, .un] rfl ?_
  refine db_cons (ds_for PassesOwn.never rfl (di_enumT (xs := W.col.map .int) T.enumerate_ (de_w1 (W := W) (nv 1))) (fun k => [.o (.src sa s1), .d (wbD W), .d (.list (p.map .int)), .o (.lst ((calC p W.col k).map .int)), .un, .un, .un]) (Wk.refl _) (fun k z hz => ?_) (ρ2 := [.o (.src sa s1), .d (wbD W), .d (.list (p.map .int)), .o (.lst ((calC p W.col W.n).map .int)), .un, .un, .un]) (by rw [pairsD_len, List.length_map, lc])) ?_
  · obtain ⟨hk, rfl⟩ := pairs_get hz
    have lk := calC_len p W.col k
    have hx : (k : Int) ∈ names W.n := mem_names.mpr ⟨by omega, by omega⟩
    have hy := permAt hp hx
    obtain ⟨y0, y1⟩ := mem_names.mp hy
    rw [Int.toNat_natCast] at y0 y1
    refine ⟨_, _, dg_tup rfl (dgs_cons (dg_name (i := 4) scCal.nd) (dgs_cons (dg_name (i := 5) scCal.nd) dgs_nil)), ?_⟩
    refine db_at [.o (.src sa s1), .d (wbD W), .d (.list (p.map .int)), .o (.lst ((calC p W.col k).map .int)), .d (.int k), .d (.int (W.col.getD k 0)), .un] rfl ?_
    refine db_nx (ds_asg (d := .int (W.col.getD k 0)) (js := []) (nv 5) (dg_ixL (i := 3) (xs := (calC p W.col k).map .int) (z := p.getD k 0) (j := (p.getD k 0).toNat) (ix_pos y0 (by rw [List.length_map, lk]; omega)) (ow 3) (de_ixL .d (at_ints (x := (k : Int)) (by omega) (by omega)) (nv 2) (nv 4)))) ?_
    show Wk [.o (.src sa s1), .d (wbD W), .d (.list (p.map .int)), .o (.lst (((calC p W.col k).map PyData.int).set (p.getD k 0).toNat (.int (W.col.getD k 0)))), .d (.int k), .d (.int (W.col.getD k 0)), .un] [.o (.src sa s1), .d (wbD W), .d (.list (p.map .int)), .o (.lst (((calC p W.col k).set (p.getD k 0).toNat (W.col.getD k 0)).map PyData.int)), .un, .un, .un]
    rw [List.map_set]
    first | exact G.Wk.refl _ | (repeat (first | exact G.Wk.nil | apply G.Wk.cons | apply G.Wk.drop))
  · refine db_still (i := 3) (xs := (calC p W.col W.n).map .int) ?_
    refine db_at [.o (.src sa s1), .d (wbD W), .d (.list (p.map .int)), .d (.list ((calC p W.col W.n).map .int)), .un, .un, .un] rfl ?_
    refine db_one (ds_ret (de_callP gTW hg (hr.mono (by omega)) D3.mg D3.kp D3.bd (ds := [.int W.n, .list ((calC p W.col W.n).map .int), .list (pD (W.arr.map (gP p)))]) (d := wbD (calW p W)) ⟨W.n, calC p W.col W.n, W.arr.map (gP p), _, .inl rfl, by rw [List.length_map]; omega, rfl, rfl⟩ (da_cons (de_w0 (W := W) (nv 1)) (da_cons (nv 3) (da_cons (DL.de (dl_is ?_ (dl_mapA W.arr prD (fun q => prD (gP p q)) [("a", 4), ("b", 6)] rfl scCal.nd (blkOk_by (N := nCal) (sc := defScope s__law_called) (by decide +kernel)) (di_arr (nv 1)) (by (intro j hj; first | (cases hj with | head => rfl | tail _ h => cases h) | (cases hj with | head => rfl | tail _ h => cases h with | head => rfl | tail _ h => cases h) | (cases hj with | head => rfl | tail _ h => cases h with | head => rfl | tail _ h => cases h with | head => rfl | tail _ h => cases h))) (fun q hq => ?_) (by omega)))) da_nil)))))
    · rw [pD_eq, List.map_map]; rfl
    · obtain ⟨h1, h2⟩ := hW.ins q hq
      obtain ⟨b1, b2⟩ := mem_names.mp h1
      obtain ⟨b3, b4⟩ := mem_names.mp h2
      exact ⟨_, _, _, fun _ _ _ _ _ => dg_tup rfl (dgs_cons (dg_name (i := 4) scCal.nd) (dgs_cons (dg_name (i := 6) scCal.nd) dgs_nil)), fun _ _ _ _ _ => de_tup (xs := [.int (p.getD q.1.toNat 0), .int (p.getD q.2.toNat 0)]) (da_cons (de_ixL .d (at_ints (x := q.1) b1 (by omega)) (nv 2) (nv 4)) (da_cons (de_ixL .d (at_ints (x := q.2) b3 (by omega)) (nv 2) (nv 6)) da_nil)), by simp, by first | exact G.Wk.refl _ | (repeat (first | exact G.Wk.nil | apply G.Wk.cons | apply G.Wk.drop))⟩
end
end G

set_option Elab.async false
set_option linter.all false
set_option maxRecDepth 100000
set_option maxHeartbeats 4000000
/- others, walked -/
namespace G
open PySem L2 PySem.Spec PyProof.Rows
section
variable {P : Program} {w : World} {K : PySem.W.Frag} {mg : Str → Option Value} {base : Heap}
theorem ok_oth {f f1 f2 f3 f4 f5 f6 : Addr} {fd fd1 fd2 fd3 fd4 fd5 fd6 : FuncData} (D : Df K mg "_law_other" s__law_other f fd ["source", "web", "most"]) (D6 : Df K mg "_law_web" s__law_web f6 fd6 ["source", "most"]) (D5 : Df K mg "_law_called" s__law_called f5 fd5 ["source", "web"]) (D4 : Df K mg "_law_mixed" sAny f4 fd4 ["source", "things"]) (D1 : Df K mg "_law_pick" sPickB f1 fd1 ["source", "most"]) (D2 : Df K mg "_law_of" s__law_of f2 fd2 ["source", "some"]) (D3 : Df K mg "_law_told_web" s__law_told_web f3 fd3 ["n", "colors", "arrows"]) (T : Bt mg) : FnG P w K mg base 4 f fd ["source", "web", "most"] (spS K psOth) := by
  have gP := ok_pickB (P := P) (w := w) (base := base) D1 T
  have gW := ok_wr (P := P) (w := w) (base := base) D6 D1 D2 D3 T
  have gC := ok_cal (P := P) (w := w) (base := base) D5 D4 D1 D3 T
  have gA := ok_any (P := P) (w := w) (base := base) D4 D1 T
  have gT := ok_tw (P := P) (w := w) (base := base) D3 T
  refine fnS_of D.fn scOth (fun st ds d st' ⟨_, _, _, _, _, e, _⟩ => by rw [e]; rfl) ?_
  rintro cdv A outer s H E sa s0 ds d st' hg hr ⟨most, W, m1, m2, hW, rfl, rfl, rfl⟩
  have hu : (A.deeper (envOfC "_law_other" (defScope s__law_other) s.heap.objs.size f cdv)).units + 65 < cLine := by have := hr.un; omega
  have hw := Nat.lt_of_le_of_lt (Nat.add_le_add_left (by decide : 64 ≤ 65) _) hu
  have z1 : (100000 : Nat) ≤ sizeLine := by decide
  have n9 := hW.hi
  have n1 := hW.lo
  have hW9 : Rw 9 W := ⟨hW.lo, by omega, hW.lc, hW.col, hW.ins, hW.nd⟩
  have hC := calS_rw hW9 (pick s0 6).2
  have hn : (calS W (pick s0 6).2).1.n = W.n := rfl
  unfold otherR
  generalize hp : pick s0 6 = p at hC hn ⊢
  obtain ⟨way, s1⟩ := p
  dsimp only at hC hn ⊢
  generalize hc : calS W s1 = c at hC hn ⊢
  obtain ⟨C, s2⟩ := c
  dsimp only at hC hn ⊢
  have lC : C.col.length = W.n := by rw [← hn]; exact hC.lc
  have la := hC.la (Nat.le_refl 9)
  have start : ∀ {ρ' d}, DB (cxOf L2.CX0 P w K mg base nOth "_law_other" (defScope s__law_other) f cdv A outer s H E).nox [.o (.src sa s2), .d (wbD W), .d (.int most), .d (.int way), .d (.int W.n), .d (.tuple (C.col.map .int)), .d (.tuple (pD C.arr)), .un, .un, .un, .un, .un] ((defBody s__law_other).drop 2) (.rt d ρ') → DB (cxOf L2.CX0 P w K mg base nOth "_law_other" (defScope s__law_other) f cdv A outer s H E).nox (.o (.src sa s0) :: ([wbD W, PyData.int most].map Sl.d ++ List.replicate (nOth.length - ([wbD W, PyData.int most].length + 1)) .un)) (defBody s__law_other) (.rt d ρ') := fun {ρ' d} h => by
    refine db_cons (ds_set (i := 3) (y := .int way) (ρ1 := [.o (.src sa s1), .d (wbD W), .d (.int most), .un, .un, .un, .un, .un, .un, .un, .un, .un]) scOth.nd (de_callS (i := 0) gP hg (hr.mono (by omega)) D1.mg D1.kp D1.bd (ds := [.int 6]) (d := .int way) (sr' := s1) ⟨6, by decide, rfl, by rw [hp], by rw [hp]⟩ (ow 0) (da_cons de_int da_nil))) ?_
    refine db_at [.o (.src sa s1), .d (wbD W), .d (.int most), .d (.int way), .un, .un, .un, .un, .un, .un, .un, .un] rfl ?_
    refine db_cons (ds_asg (d := wbD C) (js := [4, 5, 6]) (ρ1 := [.o (.src sa s2), .d (wbD W), .d (.int most), .d (.int way), .un, .un, .un, .un, .un, .un, .un, .un]) (de_callS (i := 0) gC hg (hr.mono (by omega)) D5.mg D5.kp D5.bd (ds := [wbD W]) (d := wbD C) (sr' := s2) ⟨W, hW9, rfl, by rw [hc], by rw [hc]⟩ (ow 0) (da_cons (nv 1) da_nil)) (dg_tup (xs := [.int C.n, .tuple (C.col.map .int), .tuple (pD C.arr)]) rfl (dgs_cons (dg_name (i := 4) scOth.nd) (dgs_cons (dg_name (i := 5) scOth.nd) (dgs_cons (dg_name (i := 6) scOth.nd) dgs_nil))))) ?_
    refine db_at [.o (.src sa s2), .d (wbD W), .d (.int most), .d (.int way), .d (.int W.n), .d (.tuple (C.col.map .int)), .d (.tuple (pD C.arr)), .un, .un, .un, .un, .un] (by rw [← hn]; rfl) ?_
    exact h
  by_cases c0 : way = 0
  · rw [if_pos c0]
    refine ⟨[.o (.src sa s2), .un, .un, .un, .un, .un, .un, .un, .un, .un, .un, .un], rfl, db_rtW (ρ1 := [.o (.src sa s2), .d (wbD W), .d (.int most), .d (.int way), .d (.int W.n), .d (.tuple (C.col.map .int)), .d (.tuple (pD C.arr)), .un, .un, .un, .un, .un]) ?_ (by first | exact G.Wk.refl _ | (repeat (first | exact G.Wk.nil | apply G.Wk.cons | apply G.Wk.drop)))⟩
    refine start (db_ifT (dt_eqIt c0 (nv 3) de_int) (db_one (ds_ret (de_is (de_tup (xs := [.int W.n, .tuple (C.col.map .int), .tuple (pD C.arr)]) (da_cons (nv 4) (da_cons (nv 5) (da_cons (nv 6) da_nil)))) ?_))))
    rw [← hn]; rfl
  rw [if_neg c0]
  have e12 : (([PyData.int 1, .int 2].any fun z => PyData.eqv z (.int way)) && decide ((1 : Int) < (W.n : Int))) = decide ((way = 1 ∨ way = 2) ∧ 1 < W.n) := by
    have := in_row [1, 2] way
    rw [show ([1, 2] : List Int).map PyData.int = [PyData.int 1, .int 2] from rfl] at this
    rw [this, Bool.eq_iff_iff]
    simp
    intro _
    omega
  by_cases c1 : (way = 1 ∨ way = 2) ∧ 1 < W.n
  · rw [if_pos c1]
    have hp' := anyS_perm (names W.n) s2
    have em : anyS ((names W.n).map PyData.int) s2 = ((anyS (names W.n) s2).1.map .int, (anyS (names W.n) s2).2) := anyS_map _ _ _
    generalize anyS (names W.n) s2 = r at hp' em ⊢
    obtain ⟨p, s3⟩ := r
    dsimp only at hp' em ⊢
    have lp : p.length = W.n := by rw [hp'.length_eq, names_len]
    have et : cutD (p.map PyData.int) none (some 2) = [.int (p.getD 0 0), .int (p.getD 1 0)] := by
      show cutD _ none (some ((2 : Nat) : Int)) = _
      rw [cutD_to]
      match p, lp with
      | [], h => simp at h; omega
      | [_], h => simp at h; omega
      | _ :: _ :: _, _ => rfl
    generalize p.getD 0 0 = x at et ⊢
    generalize p.getD 1 0 = y at et ⊢
    have fl := List.length_filter_le (fun z => !decide (z = (x, y))) C.arr
    refine ⟨[.o (.src sa s3), .un, .un, .un, .un, .un, .un, .un, .un, .un, .un, .un], rfl, db_rtW (ρ1 := [.o (.src sa s3), .d (wbD W), .d (.int most), .d (.int way), .d (.int W.n), .d (.tuple (C.col.map .int)), .d (.tuple (pD C.arr)), .d (.int x), .d (.int y), .d (.list (pD (C.arr.filter fun z => !decide (z = (x, y))))), .un, .un]) ?_ (by first | exact G.Wk.refl _ | (repeat (first | exact G.Wk.nil | apply G.Wk.cons | apply G.Wk.drop)))⟩
    refine start (db_ifF (dt_eqIf c0 (nv 3) de_int) (db_ifT (dt_is (DW.dt (dw_and (dt_inT (d := .int way) (ds := [.int 1, .int 2]) hu sx_int.sh (rowD_sh (l := [1, 2])) (nv 3) (de_tup (da_cons de_int (da_cons de_int da_nil)))) (fun _ => dw_and1 (dt_gt (nv 4) de_int)) (fun _ => rfl))) (by rw [e12, decide_eq_true c1])) ?_))
    refine db_cons (ds_asg (d := .list [.int x, .int y]) (js := [7, 8]) (ρ1 := [.o (.src sa s3), .d (wbD W), .d (.int most), .d (.int way), .d (.int W.n), .d (.tuple (C.col.map .int)), .d (.tuple (pD C.arr)), .un, .un, .un, .un, .un]) (DL.de (dl_is et (dl_sl .d (de_callS (i := 0) gA hg (hr.mono (by omega)) D4.mg D4.kp D4.bd (ds := [.list (rangeD 0 ((W.n : Int)).toNat)]) (d := .list (p.map .int)) (sr' := s3) ⟨rangeD 0 ((W.n : Int)).toNat, by rw [rangeD_len]; omega, rfl, by rw [names_D, em], by rw [names_D, em]⟩ (ow 0) (da_cons (DL.de (dl_listRg (n := (W.n : Int)) rfl T.list_ T.range_ (by omega) (nv 4))) da_nil)) do_none (do_some de_int)))) (dg_lst (n := 2) rfl (dgs_cons (dg_name (i := 7) scOth.nd) (dgs_cons (dg_name (i := 8) scOth.nd) dgs_nil)) rfl)) ?_
    refine db_at [.o (.src sa s3), .d (wbD W), .d (.int most), .d (.int way), .d (.int W.n), .d (.tuple (C.col.map .int)), .d (.tuple (pD C.arr)), .d (.int x), .d (.int y), .un, .un, .un] rfl ?_
    refine db_cons (ds_setFiltA (i := 9) C.arr prD prD (fun z => !decide (z = (x, y))) [("pair", 10)] rfl scOth.nd (blkOk_by (N := nOth) (sc := defScope s__law_other) (by decide +kernel)) (by rw [← pD_eq]; exact di_tup (nv 6)) (by (intro j hj; first | (cases hj with | head => rfl | tail _ h => cases h) | (cases hj with | head => rfl | tail _ h => cases h with | head => rfl | tail _ h => cases h) | (cases hj with | head => rfl | tail _ h => cases h with | head => rfl | tail _ h => cases h with | head => rfl | tail _ h => cases h))) (fun q hq => ?_) (by omega)) ?_
    · exact ⟨_, _, _, _, fun _ _ _ _ _ => dg_name (i := 10) scOth.nd, fun _ _ _ _ _ => dt_is (dt_neD hw (prD_shaped q) (prD_shaped (x, y)) (nv 10) (de_tup (xs := [.int x, .int y]) (da_cons (nv 7) (da_cons (nv 8) da_nil)))) (by rw [eqv_prD]), fun _ _ _ _ _ _ => nv 10, by simp, by first | exact G.Wk.refl _ | (repeat (first | exact G.Wk.nil | apply G.Wk.cons | apply G.Wk.drop)), by first | exact G.Wk.refl _ | (repeat (first | exact G.Wk.nil | apply G.Wk.cons | apply G.Wk.drop))⟩
    refine db_still (i := 9) (xs := (C.arr.filter fun z => !decide (z = (x, y))).map prD) ?_
    rw [← pD_eq (C.arr.filter fun z => !decide (z = (x, y)))]
    refine db_at [.o (.src sa s3), .d (wbD W), .d (.int most), .d (.int way), .d (.int W.n), .d (.tuple (C.col.map .int)), .d (.tuple (pD C.arr)), .d (.int x), .d (.int y), .d (.list (pD (C.arr.filter fun z => !decide (z = (x, y))))), .un, .un] rfl ?_
    refine db_one (ds_ret (de_callP gT hg (hr.mono (by omega)) D3.mg D3.kp D3.bd (ds := [.int W.n, .tuple (C.col.map .int), .list (pD (if (x, y) ∈ C.arr then C.arr.filter (fun z => !decide (z = (x, y))) else C.arr.filter (fun z => !decide (z = (x, y))) ++ [(x, y)]))]) (d := wbD ⟨W.n, C.col, onceP (if (x, y) ∈ C.arr then C.arr.filter (fun z => !decide (z = (x, y))) else C.arr.filter (fun z => !decide (z = (x, y))) ++ [(x, y)])⟩) ⟨W.n, C.col, _, _, .inr rfl, ?_, rfl, rfl⟩ (da_cons (nv 4) (da_cons (nv 5) (da_cons (de_ifE (x := decide ((x, y) ∈ C.arr)) (dt_is (dt_inT (d := (pK (x, y)).data) hu (pl_shaped (pK_pl _) (Nat.le_trans (pK_depth _) (by decide))) (arr_shaped C.arr) (de_tup (xs := [.int x, .int y]) (da_cons (nv 7) (da_cons (nv 8) da_nil))) (nv 6)) (in_arr C x y)) (fun e => de_is (nv 9) (by rw [if_pos (of_decide_eq_true e)])) (fun e => DL.de (dl_is (by rw [if_neg (of_decide_eq_false e), pD_app]; rfl) (dl_catS (xs := pD (C.arr.filter fun z => !decide (z = (x, y)))) (ys := [prD (x, y)]) (by rw [pD_len]; simp only [List.length_cons, List.length_nil]; omega) .d .d (nv 9) (DL.de (dl_lst (da_cons (de_tup (xs := [.int x, .int y]) (da_cons (nv 7) (da_cons (nv 8) da_nil))) da_nil))))))) da_nil)))))
    split
    · omega
    · rw [List.length_append]; simp only [List.length_cons, List.length_nil]; omega
  rw [if_neg c1]
  have no1 : ∀ {ρ' d}, DB (cxOf L2.CX0 P w K mg base nOth "_law_other" (defScope s__law_other) f cdv A outer s H E).nox [.o (.src sa s2), .d (wbD W), .d (.int most), .d (.int way), .d (.int W.n), .d (.tuple (C.col.map .int)), .d (.tuple (pD C.arr)), .un, .un, .un, .un, .un] ((defBody s__law_other).drop 4) (.rt d ρ') → DB (cxOf L2.CX0 P w K mg base nOth "_law_other" (defScope s__law_other) f cdv A outer s H E).nox (.o (.src sa s0) :: ([wbD W, PyData.int most].map Sl.d ++ List.replicate (nOth.length - ([wbD W, PyData.int most].length + 1)) .un)) (defBody s__law_other) (.rt d ρ') := fun {ρ' d} h =>
    start (db_ifF (dt_eqIf c0 (nv 3) de_int) (db_ifF (dt_is (DW.dt (dw_and (dt_inT (d := .int way) (ds := [.int 1, .int 2]) hu sx_int.sh (rowD_sh (l := [1, 2])) (nv 3) (de_tup (da_cons de_int (da_cons de_int da_nil)))) (fun _ => dw_and1 (dt_gt (nv 4) de_int)) (fun _ => rfl))) (by rw [e12, decide_eq_false c1])) h))
  by_cases c3 : way = 3
  · rw [if_pos c3]
    have qk := pick_in s2 (many := (W.n : Int)) (by omega)
    generalize hpk : pick s2 W.n = pk at qk ⊢
    obtain ⟨k, s3⟩ := pk
    dsimp only at qk ⊢
    generalize hpv : pick s3 2 = pv
    obtain ⟨v, s4⟩ := pv
    dsimp only
    have ek : ((k.toNat : Nat) : Int) = k := Int.toNat_of_nonneg qk.1
    have t1 : cutD (C.col.map PyData.int) none (some k) = (C.col.take k.toNat).map .int := by
      rw [← ek, cutD_to, List.map_take, Int.toNat_natCast]
    have t2 : cutD (C.col.map PyData.int) (some (k + 1)) none = (C.col.drop (k.toNat + 1)).map .int := by
      rw [show k + 1 = ((k.toNat + 1 : Nat) : Int) by omega, cutD_from, List.map_drop]
    refine ⟨[.o (.src sa s4), .un, .un, .un, .un, .un, .un, .un, .un, .un, .un, .un], rfl, db_rtW (ρ1 := [.o (.src sa s4), .d (wbD W), .d (.int most), .d (.int way), .d (.int W.n), .d (.tuple (C.col.map .int)), .d (.tuple (pD C.arr)), .un, .un, .un, .un, .d (.int k)]) ?_ (by first | exact G.Wk.refl _ | (repeat (first | exact G.Wk.nil | apply G.Wk.cons | apply G.Wk.drop)))⟩
    refine no1 (db_ifT (dt_eqIt c3 (nv 3) de_int) (db_cons (ds_set (i := 11) (y := .int k) (ρ1 := [.o (.src sa s3), .d (wbD W), .d (.int most), .d (.int way), .d (.int W.n), .d (.tuple (C.col.map .int)), .d (.tuple (pD C.arr)), .un, .un, .un, .un, .un]) scOth.nd (de_callS (i := 0) gP hg (hr.mono (by omega)) D1.mg D1.kp D1.bd (ds := [.int W.n]) (d := .int k) (sr' := s3) ⟨W.n, by omega, rfl, by rw [hpk], by rw [hpk]⟩ (ow 0) (da_cons (nv 4) da_nil))) ?_))
    refine db_at [.o (.src sa s3), .d (wbD W), .d (.int most), .d (.int way), .d (.int W.n), .d (.tuple (C.col.map .int)), .d (.tuple (pD C.arr)), .un, .un, .un, .un, .d (.int k)] rfl ?_
    refine db_one (ds_ret (de_is (de_tup (xs := [.int W.n, .tuple ((C.col.take k.toNat).map .int ++ [.int v] ++ (C.col.drop (k.toNat + 1)).map .int), .tuple (pD C.arr)]) (da_cons (nv 4) (da_cons (de_catT (xs := (C.col.take k.toNat).map .int ++ [.int v]) (ys := (C.col.drop (k.toNat + 1)).map .int) (by simp only [List.length_append, List.length_map, List.length_take, List.length_drop, List.length_cons, List.length_nil]; omega) (de_catT (xs := (C.col.take k.toNat).map .int) (ys := [.int v]) (by simp only [List.length_map, List.length_take, List.length_cons, List.length_nil]; omega) (de_is (de_slT (xs := C.col.map .int) (nv 5) do_none (do_some (i := k) (nv 11))) (by rw [t1])) (de_tup (xs := [.int v]) (da_cons (de_callS (i := 0) gP hg (hr.mono (by omega)) D1.mg D1.kp D1.bd (ds := [.int 2]) (d := .int v) (sr' := s4) ⟨2, by decide, rfl, by rw [hpv], by rw [hpv]⟩ (ow 0) (da_cons de_int da_nil)) da_nil))) (de_is (de_slT (xs := C.col.map .int) (nv 5) (do_some (i := k + 1) (de_add (nv 11) de_int)) do_none) (by rw [t2]))) (da_cons (nv 6) da_nil)))) ?_))
    show _ = PyData.tuple [.int W.n, .tuple ((C.col.take k.toNat ++ [v] ++ C.col.drop (k.toNat + 1)).map .int), .tuple (pD C.arr)]
    rw [List.map_append, List.map_append]; rfl
  rw [if_neg c3]
  have no3 : ∀ {ρ' d}, DB (cxOf L2.CX0 P w K mg base nOth "_law_other" (defScope s__law_other) f cdv A outer s H E).nox [.o (.src sa s2), .d (wbD W), .d (.int most), .d (.int way), .d (.int W.n), .d (.tuple (C.col.map .int)), .d (.tuple (pD C.arr)), .un, .un, .un, .un, .un] ((defBody s__law_other).drop 5) (.rt d ρ') → DB (cxOf L2.CX0 P w K mg base nOth "_law_other" (defScope s__law_other) f cdv A outer s H E).nox (.o (.src sa s0) :: ([wbD W, PyData.int most].map Sl.d ++ List.replicate (nOth.length - ([wbD W, PyData.int most].length + 1)) .un)) (defBody s__law_other) (.rt d ρ') := fun {ρ' d} h =>
    no1 (db_ifF (dt_eqIf c3 (nv 3) de_int) h)
  have e4 : (decide (way = 4) && decide ((W.n : Int) < (most : Int))) = decide (way = 4 ∧ W.n < most) := by
    rw [Bool.eq_iff_iff]; simp
  by_cases c4 : way = 4 ∧ W.n < most
  · rw [if_pos c4]
    have t1 : cutD (C.col.map PyData.int) none (some 1) = (C.col.take 1).map .int := by
      show cutD _ none (some ((1 : Nat) : Int)) = _
      rw [cutD_to, List.map_take]
    refine ⟨[.o (.src sa s2), .un, .un, .un, .un, .un, .un, .un, .un, .un, .un, .un], rfl, db_rtW (ρ1 := [.o (.src sa s2), .d (wbD W), .d (.int most), .d (.int way), .d (.int W.n), .d (.tuple (C.col.map .int)), .d (.tuple (pD C.arr)), .un, .un, .un, .un, .un]) ?_ (by first | exact G.Wk.refl _ | (repeat (first | exact G.Wk.nil | apply G.Wk.cons | apply G.Wk.drop)))⟩
    refine no3 (db_ifT (dt_is (DW.dt (dw_and (dt_eqI (nv 3) de_int) (fun _ => dw_and1 (dt_lt (nv 4) (nv 2))) (fun _ => rfl))) (by rw [e4, decide_eq_true c4])) (db_one (ds_ret (de_is (de_tup (xs := [.int ((W.n : Int) + 1), .tuple (C.col.map .int ++ (C.col.take 1).map .int), .tuple (pD C.arr)]) (da_cons (de_add (nv 4) de_int) (da_cons (de_catT (xs := C.col.map .int) (ys := (C.col.take 1).map .int) (by simp only [List.length_map, List.length_take]; omega) (nv 5) (de_is (de_slT (xs := C.col.map .int) (nv 5) do_none (do_some de_int)) (by rw [t1]))) (da_cons (nv 6) da_nil)))) ?_))))
    show _ = PyData.tuple [.int ((W.n + 1 : Nat) : Int), .tuple ((C.col ++ C.col.take 1).map .int), .tuple (pD C.arr)]
    rw [List.map_append]; rfl
  rw [if_neg c4]
  refine ⟨[.o (.src sa (webR most s2).2), .un, .un, .un, .un, .un, .un, .un, .un, .un, .un, .un], rfl, db_rtW (ρ1 := [.o (.src sa (webR most s2).2), .d (wbD W), .d (.int most), .d (.int way), .d (.int W.n), .d (.tuple (C.col.map .int)), .d (.tuple (pD C.arr)), .un, .un, .un, .un, .un]) ?_ (by first | exact G.Wk.refl _ | (repeat (first | exact G.Wk.nil | apply G.Wk.cons | apply G.Wk.drop)))⟩
  exact no3 (db_ifF (dt_is (DW.dt (dw_and (dt_eqI (nv 3) de_int) (fun _ => dw_and1 (dt_lt (nv 4) (nv 2))) (fun _ => rfl))) (by rw [e4, decide_eq_false c4])) (db_one (ds_ret (de_callS (i := 0) gW hg (hr.mono (by omega)) D6.mg D6.kp D6.bd (ds := [.int most]) (d := wbD (webR most s2).1) (sr' := (webR most s2).2) ⟨most, m1, m2, rfl, rfl, rfl⟩ (ow 0) (da_cons (nv 2) da_nil)))))
end
end G

set_option Elab.async false
set_option linter.all false
set_option maxRecDepth 100000
set_option maxHeartbeats 4000000
/- (..) * 0, 1 << k -/
namespace G
open PySem L2 PySem.Spec PyProof.Rows
theorem tuple_mul0 (l : Addr) (items : Array Value) (n : Nat) (dd : Option Addr) (sl : Array (Option Value)) (u : Tok) (c1 : (items.isEmpty || (0 : Int) == 1) = false) :
    Meets (Builtin.«tuple.__mul__» ⟨[.ref l, .int 0 u], []⟩) (fun _ R s => s.heap.get? l = some { cls := .type "tuple", dict := dd, data := .seq items n, slots := sl } ∧
      R (.ok (.ret (Value.ref s.heap.objs.size))) { s with heap := s.heap.push { cls := Value.type "tuple", data := Data.seq #[] }, toks := s.toks }) :=
  .of_wp fun prog w A R s h => by
    obtain ⟨hp, g, d, tk, os⟩ := s
    obtain ⟨hl, h⟩ := h
    have f1 := AutoSeq1.idx_int
    wp_walk using wpAny_loadPart' hl
    repeat (first
      | (refine wpAny_ite_false (decide_eq_false (by decide)) ?_; wp_walk using wpAny_loadPart' hl)
      | (refine wpAny_ite_false (decide_eq_false (by rw [c1]; exact Bool.false_ne_true)) ?_; wp_walk using wpAny_loadPart' hl)
      | (refine wpAny_ite_true (decide_eq_true rfl) ?_; wp_walk using wpAny_loadPart' hl))
    exact ⟨_, rfl, h⟩
def rRep0 (K : PySem.W.Frag) : R2 := fun x y H Q => ∃ l xs, x = .ref l ∧ y = .int 0 ∧ SqT K H l xs ∧ xs ≠ [] ∧ NewT H [] Q
theorem op_rep0 {X : Cx} : OpR X (binaryOp .Mult) (rRep0 X.K) := by
  rintro pins s σ H x y v u Q I rx ry ⟨l, xs, rfl, rfl, hT, hne, q⟩
  cases rx
  obtain ⟨t, rfl⟩ := ry
  obtain ⟨its, r, ⟨⟨cls, dd, data, sl⟩, ho, hc, n, hd⟩, hs⟩ := I.tuple hT
  simp only at hc hd
  subst hc hd
  have hi : (its.toArray.isEmpty || (0 : Int) == 1) = false := by
    cases r with
    | nil => exact absurd rfl hne
    | cons _ _ => simp
  exact wpAny_binaryOp_repeat_ref (T := "tuple") (U := "int") (by decide) ⟨_, ho, rfl⟩ (fun s' => typeIs_int s' 0 t) noFill_tuple_mul PySem.F.fills_int_mul PySem.F.slot_int_rmul repeat_tuple PySem.F.slot_int_index.lookup
    (call_meets PySem.F.slot_int_rmul (typeIs_int s 0 t) PySem.F.entry_int_rmul (PySem.F.args_int_rmul_2 _ _) (int_rmul_tuple 0 t l its.toArray n dd sl) ⟨ho, rfl, ⟨_, ho, rfl⟩,
      call_meets PySem.F.slot_tuple_mul ⟨_, ho, rfl⟩ PySem.F.entry_tuple_mul (PySem.F.args_tuple_mul_2 _ _) (tuple_mul0 l its.toArray n dd sl t hi) ⟨ho,
        inv_newT (t' := s.toks) (xs := []) (its := []) I .nil (by decide) (fun _ _ e => Heap.get?_push_of_some _ e) (Nat.le_refl _) (Heap.get?_push_size _ rfl) rfl rfl rfl q⟩⟩)
section
variable {X : Cx} {ρ ρ1 ρ2 : Env'} {a b : Expr} {pos : Pos} {xs : List PyData}
/-- (..) * k, k at least 0 -/
theorem de_repZ {k : Int} (h0 : 0 ≤ k) (h1 : k ≤ 1000) (hne : xs ≠ []) (hz : xs.length ≤ 1000) (ha : DE X ρ a (.d (.tuple xs)) ρ1) (hb : DE X ρ1 b (.d (.int k)) ρ2) : DE X ρ (.BinOp a .Mult b pos) (.d (.tuple (List.replicate k.toNat xs).flatten)) ρ2 := by
  by_cases e : k = 0
  · subst e
    exact fun F Z B H σ Q kk q => ⟨_, pe_op op_rep0 pe_s pe_s, DE.two ha hb kk fun v1 v2 B2 H2 k2 x w1 w2 => by
      obtain ⟨p, vs, e, s, sB, t⟩ := tup_at k2 w1
      have dz : Dp X.K B2 v2 (.int 0) := w2
      cases dz
      refine ⟨p, vs, e, rfl, s, fun z => hne ?_, k2.newT (xs := []) .nil fun v3 B3 H3 k3 x3 w3 => q v3 B3 H3 k3 (x.trans x3) w3⟩
      have := DpAll.length t
      rw [z] at this
      exact List.eq_nil_of_length_eq_zero this.symm⟩
  · exact de_repA (by omega) h1 hne hz ha hb
theorem de_shl {i j : Int} (hc : CPow i j) (ha : DE X ρ a (.d (.int i)) ρ1) (hb : DE X ρ1 b (.d (.int j)) ρ2) : DE X ρ (.BinOp a .LShift b pos) (.d (.int (i * 2 ^ j.toNat))) ρ2 := de_op op_shl (od_I hc fun _ _ => .int _) ha hb
end
end G

set_option Elab.async false
set_option linter.all false
set_option maxRecDepth 100000
set_option maxHeartbeats 4000000
/- the law of webs counted alike, walked -/
namespace G
open PySem L2 PySem.Spec PyProof.Rows
theorem bx_some {X : Cx} {ρ : Env'} {st : Stmt} {rest : List Stmt} {I : Env' → Prop} (J : Env' → Prop) (h : ∃ ρ1, J ρ1 ∧ DS X ρ st (.nx ρ1)) (t : ∀ ρ1, J ρ1 → DBx X ρ1 rest I) : DBx X ρ (st :: rest) I := by
  obtain ⟨ρ1, j, h⟩ := h
  exact bx_cons h (t ρ1 j)
theorem dt_isnotB {X : Cx} {ρ ρ1 ρ2 : Env'} {a b : Expr} {pos : Pos} {i j : Bool} (ha : DE X ρ a (.d (.bool i)) ρ1) (hb : DE X ρ1 b (.d (.bool j)) ρ2) : DT X ρ (.Compare a [.IsNot] [b] pos) (!decide (i = j)) ρ2 := dt_cmp op_isnot_bl (fun F Z B H σ Q v1 v2 k w1 w2 q => by
  cases w1; cases w2
  exact ⟨i, j, rfl, rfl, q _ B H k (Sub.refl B) (.bl _)⟩) (nomark b) ha hb
def wl (i : Nat) : Nat := [2, 3, 3, 3].getD i 0
theorem wl_at {i : Nat} (h : i < 4) : atI [PyData.int 2, .int 3, .int 3, .int 3] (i : Int) = some (.int (wl i : Nat)) ∧ 2 ≤ wl i ∧ wl i ≤ 3 := by
  have : i = 0 ∨ i = 1 ∨ i = 2 ∨ i = 3 := by omega
  rcases this with rfl | rfl | rfl | rfl <;> exact ⟨rfl, by decide, by decide⟩
theorem Rw.up {m k : Nat} {W : Wb} (h : Rw m W) (hk : m ≤ k) : Rw k W := ⟨h.lo, Nat.le_trans h.hi hk, h.lc, h.col, h.ins, h.nd⟩
theorem ls_cons {m : Nat} {L : List Wb} (h : Ls m L) : ∃ A M, L = A :: M := by
  cases L with
  | nil => exact absurd h.1 (by decide)
  | cons A M => exact ⟨A, M, rfl⟩
abbrev nLaw : List Str := ["script", "source", "lap", "base", "webs", "others", "way", "r", "kept", "told", "due", "alike", "one", "other", "time", "web", "many", "text"]
theorem scLaw : FnScope nLaw ["script"] (defScope sLaw) := ⟨rfl, rfl, rfl, by decide +kernel, rfl, by decide +kernel, by decide +kernel⟩
/-- all that the law leans on -/
structure Txt (K : PySem.W.Frag) (mg : Str → Option Value) (f1 f2 f3 f4 f5 f6 f7 f8 f9 f10 f11 f12 f13 f14 f15 f16 f17 f18 f19 f20 f21 f22 f23 f24 : Addr) (fd1 fd2 fd3 fd4 fd5 fd6 fd7 fd8 fd9 fd10 fd11 fd12 fd13 fd14 fd15 fd16 fd17 fd18 fd19 fd20 fd21 fd22 fd23 fd24 : FuncData) : Prop extends Bt mg where
  eye : Df K mg "row_eye" s_row_eye f1 fd1 ["web", "row"]
  once : Df K mg "each_once" s_each_once f2 fd2 ["types"]
  rt : Df K mg "rank_type" s_rank_type f3 fd3 ["web", "row", "r"]
  ak : Df K mg "are_kept" s_are_kept f4 fd4 ["one", "a", "other", "b", "r"]
  tc : Df K mg "type_counts" s_type_counts f5 fd5 ["webs", "r"]
  ca : Df K mg "are_counted_alike" s_are_counted_alike f6 fd6 ["webs", "others", "r"]
  sum : Df K mg "summed" s_summed f7 fd7 ["one", "other", "is_ahead"]
  bsd : Df K mg "web_beside" s_web_beside f8 fd8 ["one", "other"]
  allb : Df K mg "all_beside" s_all_beside f9 fd9 ["webs"]
  opn : Df K mg "_law_source" sOpen f10 fd10 ["script"]
  pick : Df K mg "_law_pick" sPickB f11 fd11 ["source", "most"]
  of : Df K mg "_law_of" s__law_of f12 fd12 ["source", "some"]
  any : Df K mg "_law_mixed" sAny f13 fd13 ["source", "things"]
  tw : Df K mg "_law_told_web" s__law_told_web f14 fd14 ["n", "colors", "arrows"]
  wr : Df K mg "_law_web" s__law_web f15 fd15 ["source", "most"]
  cal : Df K mg "_law_called" s__law_called f16 fd16 ["source", "web"]
  oth : Df K mg "_law_other" s__law_other f17 fd17 ["source", "web", "most"]
  is_ : Df K mg "_law_is_same" s__law_is_same f18 fd18 ["one", "a", "other", "b"]
  ik : Df K mg "_law_is_kept" s__law_is_kept f19 fd19 ["one", "a", "other", "b", "r"]
  eye2 : Df K mg "_law_eye" s__law_eye f20 fd20 ["web", "row"]
  once2 : Df K mg "_law_once" sOnce2 f21 fd21 ["types"]
  lt : Df K mg "_law_type" s__law_type f22 fd22 ["web", "row", "r"]
  lc : Df K mg "_law_counts" s__law_counts f23 fd23 ["webs", "r"]
  la : Df K mg "_law_are_alike" s__law_are_alike f24 fd24 ["webs", "others", "r"]
def psLaw (ds : List PyData) (d : PyData) : Prop := ∃ ns : List Int, ns.length ≤ 63 ∧ ds = [.list (ns.map .int)] ∧ d = .bool true
section
variable {P : Program} {w : World} {K : PySem.W.Frag} {mg : Str → Option Value} {base : Heap}
theorem ok_law {f f1 f2 f3 f4 f5 f6 f7 f8 f9 f10 f11 f12 f13 f14 f15 f16 f17 f18 f19 f20 f21 f22 f23 f24 : Addr} {fd fd1 fd2 fd3 fd4 fd5 fd6 fd7 fd8 fd9 fd10 fd11 fd12 fd13 fd14 fd15 fd16 fd17 fd18 fd19 fd20 fd21 fd22 fd23 fd24 : FuncData} (Fn : Fun K "law" "law" sLaw f fd) (T : Txt K mg f1 f2 f3 f4 f5 f6 f7 f8 f9 f10 f11 f12 f13 f14 f15 f16 f17 f18 f19 f20 f21 f22 f23 f24 fd1 fd2 fd3 fd4 fd5 fd6 fd7 fd8 fd9 fd10 fd11 fd12 fd13 fd14 fd15 fd16 fd17 fd18 fd19 fd20 fd21 fd22 fd23 fd24) : FnG P w K mg base 8 f fd ["script"] (spP K psLaw) := by
  have gOpen := ok_open (P := P) (w := w) (base := base) T.opn T.toBt
  have gPick := ok_pickB (P := P) (w := w) (base := base) T.pick T.toBt
  have gOf := ok_of (P := P) (w := w) (base := base) T.of T.pick T.toBt
  have gAny := ok_any (P := P) (w := w) (base := base) T.any T.pick T.toBt
  have gWr := ok_wr (P := P) (w := w) (base := base) T.wr T.pick T.of T.tw T.toBt
  have gCal := ok_cal (P := P) (w := w) (base := base) T.cal T.any T.pick T.tw T.toBt
  have gOth := ok_oth (P := P) (w := w) (base := base) T.oth T.wr T.cal T.any T.pick T.of T.tw T.toBt
  have gTC := ok_tc (P := P) (w := w) (base := base) T.tc T.rt T.eye T.once T.toBt
  have gCA := ok_ca (P := P) (w := w) (base := base) T.ca T.tc T.rt T.eye T.once T.toBt
  have gLC := ok_lc2 (P := P) (w := w) (base := base) T.lc T.lt T.eye2 T.once2 T.toBt
  have gLA := ok_la2 (P := P) (w := w) (base := base) T.la T.lc T.lt T.eye2 T.once2 T.toBt
  have gAB := ok_allb (P := P) (w := w) (base := base) T.allb T.bsd T.sum T.toBt
  have gAK := ok_ak (P := P) (w := w) (base := base) T.ak T.rt T.eye T.once T.toBt 2
  have gIK := ok_ik (P := P) (w := w) (base := base) T.ik T.is_ T.toBt 2
  refine fnP_of Fn scLaw (fun ds d ⟨_, _, e, _⟩ => by rw [e]; rfl) ?_
  rintro cdv A outer s H E ds d hg hr ⟨ns, hl, rfl, rfl⟩
  have hu : (A.deeper (envOfC "law" (defScope sLaw) s.heap.objs.size f cdv)).units + 100 < cLine := by have := hr.un; omega
  have hw := Nat.lt_of_le_of_lt (Nat.add_le_add_left (by decide : 64 ≤ 100) _) hu
  have z1 : (100000 : Nat) ≤ sizeLine := by decide
  refine ⟨List.replicate 18 .un, ?_⟩
  refine db_setSrc (i := 1) gOpen hg (hr.mono (by omega)) T.opn.mg T.opn.kp T.opn.bd (ds := [.list (ns.map .int)]) ⟨ns, hl, rfl, rfl⟩ scLaw.nd (da_cons (nv 0) da_nil) fun sa => ?_
  refine db_forE (fun ρ => ∃ s0 : Src, ρ = [.d (.list (ns.map .int)), .o (.src sa s0), .un, .un, .un, .un, .un, .un, .un, .un, .un, .un, .un, .un, .un, .un, .un, .un]) PassesOwn.never rfl (di_range (n := 4) T.range_ (by omega) (da_cons de_int da_nil)) ⟨_, rfl⟩ (fun i x0 ρa hx hI => ?_) (fun ρ2 hI => ?_)
  · obtain ⟨hi, rfl⟩ := range_get (n := 4) hx
    obtain ⟨s1, rfl⟩ := hI
    refine ⟨_, _, dg_name (i := 2) scLaw.nd, ?_⟩
    refine bx_at [.d (.list (ns.map .int)), .o (.src sa s1), .d (.int (i : Nat)), .un, .un, .un, .un, .un, .un, .un, .un, .un, .un, .un, .un, .un, .un, .un] rfl ?_
    -- base
    obtain ⟨b1, b2⟩ := pick_in s1 (many := 2) (by omega)
    generalize hpb : pick s1 2 = p at b1 b2
    obtain ⟨bI, s2⟩ := p
    dsimp only at b1 b2
    obtain ⟨b, rfl⟩ : ∃ b : Nat, bI = b := ⟨bI.toNat, by omega⟩
    refine bx_cons (ds_setL (i := 3) (s0 := .un) scLaw.nd (dl_lc (own := [("time", 14)]) rfl scLaw.nd (blkOk_by (N := nLaw) (sc := defScope sLaw) (by decide +kernel)) (di_range (n := ((1 + b : Nat) : Int)) T.range_ (by omega) (da_cons (de_is (de_add de_int (de_callS (i := 1) gPick hg (hr.mono (by omega)) T.pick.mg T.pick.kp T.pick.bd (ds := [.int 2]) (d := .int (b : Nat)) (sr' := s2) ⟨2, by omega, rfl, by rw [hpb], by rw [hpb]⟩ (ow 1) (da_cons de_int da_nil))) (by congr 1)) da_nil)) (fun j => [.d (.list (ns.map .int)), .o (.src sa (runG (fun _ s => webR 2 s) j s2).2), .d (.int (i : Nat)), .un, .un, .un, .un, .un, .un, .un, .un, .un, .un, .un, .un, .un, .un, .un]) (fun j => some (wbD ((fun _ s => webR 2 s) j (runG (fun _ s => webR 2 s) j s2).2).1)) (fun k x hk => ?_) (Wk.refl _) (fun _ => Wk.refl _) (ρ' := [.d (.list (ns.map .int)), .o (.src sa (runG (fun _ s => webR 2 s) (1 + b) s2).2), .d (.int (i : Nat)), .un, .un, .un, .un, .un, .un, .un, .un, .un, .un, .un, .un, .un, .un, .un]) ?_ ?_)) ?_
    · exact LcT.map (js := [14]) (by simp) (fun _ _ _ _ _ => dg_name (i := 14) scLaw.nd) (fun _ _ _ _ _ => (de_callS (i := 1) gWr hg (hr.mono (by omega)) T.wr.mg T.wr.kp T.wr.bd (ds := [.int 2]) (d := wbD (webR 2 (runG (fun _ s => webR 2 s) k s2).2).1) (sr' := (webR 2 (runG (fun _ s => webR 2 s) k s2).2).2) ⟨2, by decide, by decide, rfl, rfl, rfl⟩ (ow 1) (da_cons de_int da_nil))) (by first | exact G.Wk.refl _ | (repeat (first | exact G.Wk.nil | apply G.Wk.cons | apply G.Wk.drop)))
    · rw [rangeD_len, Int.toNat_natCast]
      exact mrg_un rfl (by (intro j hj; first | (cases hj with | head => rfl | tail _ h => cases h) | (cases hj with | head => rfl | tail _ h => cases h with | head => rfl | tail _ h => cases h) | (cases hj with | head => rfl | tail _ h => cases h with | head => rfl | tail _ h => cases h with | head => rfl | tail _ h => cases h)))
    · rw [rangeD_len, Int.toNat_natCast]
      omega
    rw [rangeD_len, Int.toNat_natCast, runG_eq]
    have hB : Ls 2 (runG (fun _ s => webR 2 s) (1 + b) s2).1 := ⟨by rw [runG_len]; omega, by rw [runG_len]; omega, runG_all _ fun _ _ s => webR_rw (by decide) (by decide) s⟩
    generalize runG (fun _ s => webR 2 s) (1 + b) s2 = p at hB
    obtain ⟨B, s3⟩ := p
    dsimp only at hB
    clear hpb b1 b2 b
    refine bx_still (i := 3) (xs := B.map wbD) ?_
    refine bx_at [.d (.list (ns.map .int)), .o (.src sa s3), .d (.int (i : Nat)), .d (.list (B.map wbD)), .un, .un, .un, .un, .un, .un, .un, .un, .un, .un, .un, .un, .un, .un] rfl ?_
    -- webs
    obtain ⟨wa, w2, w3⟩ := wl_at hi
    obtain ⟨b1, b2⟩ := pick_in s3 (many := (wl i : Nat)) (by omega)
    generalize hpb : pick s3 (wl i : Nat) = p at b1 b2
    obtain ⟨bI, s4⟩ := p
    dsimp only at b1 b2
    obtain ⟨b, rfl⟩ : ∃ b : Nat, bI = b := ⟨bI.toNat, by omega⟩
    refine bx_cons (ds_setLc (i := 4) (own := [("time", 14)]) rfl scLaw.nd (blkOk_by (N := nLaw) (sc := defScope sLaw) (by decide +kernel)) rfl (di_range (n := ((1 + b : Nat) : Int)) T.range_ (by omega) (da_cons (de_is (de_add de_int (de_callS (i := 1) gPick hg (hr.mono (by omega)) T.pick.mg T.pick.kp T.pick.bd (ds := [.int (wl i : Nat)]) (d := .int (b : Nat)) (sr' := s4) ⟨(wl i : Nat), by omega, rfl, by rw [hpb], by rw [hpb]⟩ (ow 1) (da_cons (de_ixL .d wa (DL.de (dl_lst (da_cons de_int (da_cons de_int (da_cons de_int (da_cons de_int da_nil)))))) (nv 2)) da_nil))) (by congr 1)) da_nil)) (fun j => [.d (.list (ns.map .int)), .o (.src sa (runG (fun _ s => ofW B s) j s4).2), .d (.int (i : Nat)), .d (.list (B.map wbD)), .un, .un, .un, .un, .un, .un, .un, .un, .un, .un, .un, .un, .un, .un]) (fun j => some (wbD ((fun _ s => ofW B s) j (runG (fun _ s => ofW B s) j s4).2).1)) (fun k x hk => ?_) (Wk.refl _) (fun _ => Wk.refl _) (ρ' := [.d (.list (ns.map .int)), .o (.src sa (runG (fun _ s => ofW B s) (1 + b) s4).2), .d (.int (i : Nat)), .d (.list (B.map wbD)), .un, .un, .un, .un, .un, .un, .un, .un, .un, .un, .un, .un, .un, .un]) ?_ ?_) ?_
    · exact LcT.map (js := [14]) (by simp) (fun _ _ _ _ _ => dg_name (i := 14) scLaw.nd) (fun _ _ _ _ _ => (de_callS (i := 1) gOf hg (hr.mono (by omega)) T.of.mg T.of.kp T.of.bd (ds := [.list (B.map wbD)]) (d := wbD (ofW B (runG (fun _ s => ofW B s) k s4).2).1) (sr' := (ofW B (runG (fun _ s => ofW B s) k s4).2).2) (psOf_webs hB.1 (by have := hB.2.1; omega)) (ow 1) (da_cons (nv 3) da_nil))) (by first | exact G.Wk.refl _ | (repeat (first | exact G.Wk.nil | apply G.Wk.cons | apply G.Wk.drop)))
    · rw [rangeD_len, Int.toNat_natCast]
      exact mrg_un rfl (by (intro j hj; first | (cases hj with | head => rfl | tail _ h => cases h) | (cases hj with | head => rfl | tail _ h => cases h with | head => rfl | tail _ h => cases h) | (cases hj with | head => rfl | tail _ h => cases h with | head => rfl | tail _ h => cases h with | head => rfl | tail _ h => cases h)))
    · rw [rangeD_len, Int.toNat_natCast]
      omega
    rw [rangeD_len, Int.toNat_natCast, runG_eq]
    have hL : Ls 3 (runG (fun _ s => ofW B s) (1 + b) s4).1 := ⟨by rw [runG_len]; omega, by rw [runG_len]; omega, runG_all _ fun _ _ s => hB.2.2 _ (ofW_mem hB.1 s)⟩
    generalize runG (fun _ s => ofW B s) (1 + b) s4 = p at hL
    obtain ⟨L, s5⟩ := p
    dsimp only at hL
    clear hpb b1 b2 b
    refine bx_still (i := 4) (xs := L.map wbD) ?_
    refine bx_at [.d (.list (ns.map .int)), .o (.src sa s5), .d (.int (i : Nat)), .d (.list (B.map wbD)), .d (.list (L.map wbD)), .un, .un, .un, .un, .un, .un, .un, .un, .un, .un, .un, .un, .un] rfl ?_
    -- others
    have l3 := hL.2.1
    refine bx_cons (ds_setLc (i := 5) (own := [("web", 15)]) rfl scLaw.nd (blkOk_by (N := nLaw) (sc := defScope sLaw) (by decide +kernel)) rfl (di_list (nv 4)) (fun j => [.d (.list (ns.map .int)), .o (.src sa (runG (fun k s => calS (L.getD k zW) s) j s5).2), .d (.int (i : Nat)), .d (.list (B.map wbD)), .d (.list (L.map wbD)), .un, .un, .un, .un, .un, .un, .un, .un, .un, .un, .un, .un, .un]) (fun j => some (wbD ((fun k s => calS (L.getD k zW) s) j (runG (fun k s => calS (L.getD k zW) s) j s5).2).1)) (fun k x hk => ?_) (Wk.refl _) (fun _ => Wk.refl _) (ρ' := [.d (.list (ns.map .int)), .o (.src sa (runG (fun k s => calS (L.getD k zW) s) (L.length) s5).2), .d (.int (i : Nat)), .d (.list (B.map wbD)), .d (.list (L.map wbD)), .un, .un, .un, .un, .un, .un, .un, .un, .un, .un, .un, .un, .un]) ?_ ?_) ?_
    · rw [List.getElem?_map] at hk
      obtain ⟨W, hWk, rfl⟩ : ∃ W, L[k]? = some W ∧ x = wbD W := by
        cases e : L[k]? with
        | none => rw [e] at hk; cases hk
        | some c => rw [e] at hk; exact ⟨c, rfl, (Option.some.inj hk).symm⟩
      have eW : L.getD k zW = W := by rw [List.getD_eq_getElem?_getD, hWk]; rfl
      have hW := hL.2.2 W (List.mem_of_getElem? hWk)
      dsimp only
      show LcT _ _ _ _ _ _ _ _ _ [.d (.list (ns.map .int)), .o (.src sa (calS (L.getD k zW) (runG (fun k s => calS (L.getD k zW) s) k s5).2).2), .d (.int (i : Nat)), .d (.list (B.map wbD)), .d (.list (L.map wbD)), .un, .un, .un, .un, .un, .un, .un, .un, .un, .un, .un, .un, .un]
      rw [eW]
      exact LcT.map (js := [15]) (by simp) (fun _ _ _ _ _ => dg_name (i := 15) scLaw.nd) (fun _ _ _ _ _ => (de_callS (i := 1) gCal hg (hr.mono (by omega)) T.cal.mg T.cal.kp T.cal.bd (ds := [wbD W]) (d := wbD (calS W (runG (fun k s => calS (L.getD k zW) s) k s5).2).1) (sr' := (calS W (runG (fun k s => calS (L.getD k zW) s) k s5).2).2) ⟨W, hW.up (by decide), rfl, rfl, rfl⟩ (ow 1) (da_cons (nv 15) da_nil))) (by first | exact G.Wk.refl _ | (repeat (first | exact G.Wk.nil | apply G.Wk.cons | apply G.Wk.drop)))
    · rw [List.length_map]
      exact mrg_un rfl (by (intro j hj; first | (cases hj with | head => rfl | tail _ h => cases h) | (cases hj with | head => rfl | tail _ h => cases h with | head => rfl | tail _ h => cases h) | (cases hj with | head => rfl | tail _ h => cases h with | head => rfl | tail _ h => cases h with | head => rfl | tail _ h => cases h)))
    · rw [List.length_map]; omega
    rw [List.length_map, runG_eq]
    have hM : Ls 5 (runG (fun k s => calS (L.getD k zW) s) L.length s5).1 := ⟨by rw [runG_len]; exact hL.1, by rw [runG_len]; omega, runG_all _ fun k hk s => calS_rw (hL.2.2 _ (by rw [List.getD_eq_getElem?_getD, List.getElem?_eq_getElem hk]; exact List.getElem_mem _)) s⟩
    have hMl : (runG (fun k s => calS (L.getD k zW) s) L.length s5).1.length ≤ 4 := by rw [runG_len]; omega
    generalize runG (fun k s => calS (L.getD k zW) s) L.length s5 = p at hM hMl
    obtain ⟨M, s6⟩ := p
    dsimp only at hM hMl
    refine bx_at [.d (.list (ns.map .int)), .o (.src sa s6), .d (.int (i : Nat)), .d (.list (B.map wbD)), .d (.list (L.map wbD)), .o (.lst (M.map wbD)), .un, .un, .un, .un, .un, .un, .un, .un, .un, .un, .un, .un] rfl ?_
    -- way
    obtain ⟨wy1, wy2⟩ := pick_in s6 (many := 4) (by omega)
    generalize hpwy : pick s6 4 = p at wy1 wy2
    obtain ⟨wyI, s7⟩ := p
    dsimp only at wy1 wy2
    obtain ⟨wy, rfl⟩ : ∃ wy : Nat, wyI = wy := ⟨wyI.toNat, by omega⟩
    refine bx_cons (ds_set (i := 6) (y := .int (wy : Nat)) (ρ1 := [.d (.list (ns.map .int)), .o (.src sa s7), .d (.int (i : Nat)), .d (.list (B.map wbD)), .d (.list (L.map wbD)), .o (.lst (M.map wbD)), .un, .un, .un, .un, .un, .un, .un, .un, .un, .un, .un, .un]) scLaw.nd (de_callS (i := 1) gPick hg (hr.mono (by omega)) T.pick.mg T.pick.kp T.pick.bd (ds := [.int 4]) (d := .int (wy : Nat)) (sr' := s7) ⟨4, by omega, rfl, by rw [hpwy], by rw [hpwy]⟩ (ow 1) (da_cons de_int da_nil))) ?_
    refine bx_at [.d (.list (ns.map .int)), .o (.src sa s7), .d (.int (i : Nat)), .d (.list (B.map wbD)), .d (.list (L.map wbD)), .o (.lst (M.map wbD)), .d (.int (wy : Nat)), .un, .un, .un, .un, .un, .un, .un, .un, .un, .un, .un] rfl ?_
    clear hpwy
    refine bx_some (fun ρ => ∃ (M : List Wb) (s : Src), Ls 5 M ∧ ρ = [.d (.list (ns.map .int)), .o (.src sa s), .d (.int (i : Nat)), .d (.list (B.map wbD)), .d (.list (L.map wbD)), .o (.lst (M.map wbD)), .d (.int (wy : Nat)), .un, .un, .un, .un, .un, .un, .un, .un, .un, .un, .un]) ?_ (fun ρ1 hJ => ?_)
    · by_cases c : wy = 1
      · have ho := psOf_webs (st := s7) hB.1 (by have := hB.2.1; omega)
        have hm := ofW_mem hB.1 s7
        generalize ofW B s7 = p at ho hm
        obtain ⟨W, s8⟩ := p
        dsimp only at ho hm
        by_cases l5 : M.length ≤ 4
        · refine ⟨_, ⟨M ++ [W], s8, ⟨by rw [List.length_append]; simp, by rw [List.length_append]; simp only [List.length_cons, List.length_nil]; omega, fun V hV => (List.mem_append.mp hV).elim (hM.2.2 V) (fun q => by rw [List.mem_singleton.mp q]; exact hB.2.2 W hm)⟩, rfl⟩, ds_ifT (dt_eqIt (i := ((wy : Nat) : Int)) (j := 1) (by omega) (nv 6) de_int) ?_⟩
          rw [List.map_append]
          exact db_nx (ds_append (i := 5) (xs := M.map wbD) (y := wbD W) (ρ2 := [.d (.list (ns.map .int)), .o (.src sa s8), .d (.int (i : Nat)), .d (.list (B.map wbD)), .d (.list (L.map wbD)), .o (.lst (M.map wbD)), .d (.int (wy : Nat)), .un, .un, .un, .un, .un, .un, .un, .un, .un, .un, .un]) (by rw [List.length_map]; omega) (ow 5) (de_callS (i := 1) gOf hg (hr.mono (by omega)) T.of.mg T.of.kp T.of.bd (ds := [.list (B.map wbD)]) (d := wbD W) (sr' := s8) ho (ow 1) (da_cons (nv 3) da_nil))) (by first | exact G.Wk.refl _ | (repeat (first | exact G.Wk.nil | apply G.Wk.cons | apply G.Wk.drop)))
        · exact absurd (hMl) l5
      · exact ⟨_, ⟨M, s7, hM, rfl⟩, ds_ifF (dt_eqIf (i := ((wy : Nat) : Int)) (j := 1) (by omega) (nv 6) de_int) db_nil⟩
    clear hM hMl
    obtain ⟨M, s7, hM, rfl⟩ := hJ
    refine bx_some (fun ρ => ∃ (M : List Wb) (s : Src), Ls 5 M ∧ ρ = [.d (.list (ns.map .int)), .o (.src sa s), .d (.int (i : Nat)), .d (.list (B.map wbD)), .d (.list (L.map wbD)), .o (.lst (M.map wbD)), .d (.int (wy : Nat)), .un, .un, .un, .un, .un, .un, .un, .un, .un, .un, .un]) ?_ (fun ρ1 hJ => ?_)
    · by_cases c : wy = 2
      · obtain ⟨V, M1, rfl⟩ := ls_cons hM
        have hV := hM.2.2 V List.mem_cons_self
        have hO := otherR_rw (by decide) (by decide) hV s7
        have ho : psOth s7 [wbD V, .int (2 : Nat)] (wbD (otherR 2 V s7).1) (otherR 2 V s7).2 := ⟨2, V, by decide, by decide, hV, rfl, rfl, rfl⟩
        generalize otherR 2 V s7 = p at ho hO
        obtain ⟨W, s8⟩ := p
        dsimp only at ho hO
        refine ⟨_, ⟨W :: M1, s8, ⟨hM.1, hM.2.1, fun U hU => (List.mem_cons.mp hU).elim (fun q => q ▸ hO) (fun q => hM.2.2 U (List.mem_cons_of_mem _ q))⟩, rfl⟩, ds_ifT (dt_eqIt (i := ((wy : Nat) : Int)) (j := 2) (by omega) (nv 6) de_int) ?_⟩
        exact db_nx (ds_asg (d := wbD W) (js := []) (ρ1 := [.d (.list (ns.map .int)), .o (.src sa s8), .d (.int (i : Nat)), .d (.list (B.map wbD)), .d (.list (L.map wbD)), .o (.lst ((V :: M1).map wbD)), .d (.int (wy : Nat)), .un, .un, .un, .un, .un, .un, .un, .un, .un, .un, .un]) (de_callS (i := 1) gOth hg (hr.mono (by omega)) T.oth.mg T.oth.kp T.oth.bd (ds := [wbD V, .int (2 : Nat)]) (d := wbD W) (sr' := s8) ho (ow 1) (da_cons (de_ixL (xs := (V :: M1).map wbD) (i := 0) (.o (i := 5) rfl) (at_zero' _ _) (ow 5) de_int) (da_cons de_int da_nil))) (dg_ixL (i := 5) (xs := (V :: M1).map wbD) (z := 0) (j := 0) (ix_pos (by decide) (by rw [List.length_map, List.length_cons]; omega)) (ow 5) de_int)) (by first | exact G.Wk.refl _ | (repeat (first | exact G.Wk.nil | apply G.Wk.cons | apply G.Wk.drop)))
      · exact ⟨_, ⟨M, s7, hM, rfl⟩, ds_ifF (dt_eqIf (i := ((wy : Nat) : Int)) (j := 2) (by omega) (nv 6) de_int) db_nil⟩
    clear hM
    obtain ⟨M, s7, hM, rfl⟩ := hJ
    refine bx_some (fun ρ => ∃ (M : List Wb) (s : Src), Ls 5 M ∧ ρ = [.d (.list (ns.map .int)), .o (.src sa s), .d (.int (i : Nat)), .d (.list (B.map wbD)), .d (.list (L.map wbD)), .o (.lst (M.map wbD)), .d (.int (wy : Nat)), .un, .un, .un, .un, .un, .un, .un, .un, .un, .un, .un]) ?_ (fun ρ1 hJ => ?_)
    · by_cases c : wy = 3
      · obtain ⟨c1, c2⟩ := pick_in s7 (many := 3) (by omega)
        generalize hpc : pick s7 3 = p at c1 c2
        obtain ⟨cI, s8⟩ := p
        dsimp only at c1 c2
        obtain ⟨c, rfl⟩ : ∃ c : Nat, cI = c := ⟨cI.toNat, by omega⟩
        have hN : Ls 5 (runG (fun _ s => ofW B s) (1 + c) s8).1 := ⟨by rw [runG_len]; omega, by rw [runG_len]; omega, runG_all _ fun _ _ s => hB.2.2 _ (ofW_mem hB.1 s)⟩
        refine ⟨_, ⟨(runG (fun _ s => ofW B s) (1 + c) s8).1, (runG (fun _ s => ofW B s) (1 + c) s8).2, hN, rfl⟩, ds_ifT (dt_eqIt (i := ((wy : Nat) : Int)) (j := 3) (by omega) (nv 6) de_int) ?_⟩
        rw [← runG_eq]
        have el : (rangeD 0 (((1 + c : Nat) : Int)).toNat).length = 1 + c := by rw [rangeD_len, Int.toNat_natCast]
        refine db_weak (db_one (ds_setLc (i := 5) (own := [("time", 14)]) rfl scLaw.nd (blkOk_by (N := nLaw) (sc := defScope sLaw) (by decide +kernel)) rfl (di_range (n := ((1 + c : Nat) : Int)) T.range_ (by omega) (da_cons (de_is (de_add de_int (de_callS (i := 1) gPick hg (hr.mono (by omega)) T.pick.mg T.pick.kp T.pick.bd (ds := [.int 3]) (d := .int (c : Nat)) (sr' := s8) ⟨3, by omega, rfl, by rw [hpc], by rw [hpc]⟩ (ow 1) (da_cons de_int da_nil))) (by congr 1)) da_nil)) (fun k => [.d (.list (ns.map .int)), .o (.src sa (runG (fun _ s => ofW B s) k s8).2), .d (.int (i : Nat)), .d (.list (B.map wbD)), .d (.list (L.map wbD)), .o (.lst (M.map wbD)), .d (.int (wy : Nat)), .un, .un, .un, .un, .un, .un, .un, .un, .un, .un, .un]) (fun k => some (wbD ((fun _ s => ofW B s) k (runG (fun _ s => ofW B s) k s8).2).1)) (fun k x hk => ?_) (Wk.refl _) (fun _ => Wk.refl _) (ρ' := [.d (.list (ns.map .int)), .o (.src sa (runG (fun _ s => ofW B s) (1 + c) s8).2), .d (.int (i : Nat)), .d (.list (B.map wbD)), .d (.list (L.map wbD)), .o (.lst (M.map wbD)), .d (.int (wy : Nat)), .un, .un, .un, .un, .un, .un, .un, .un, .un, .un, .un]) ?_ ?_)) ?_
        · exact LcT.map (js := [14]) (by simp) (fun _ _ _ _ _ => dg_name (i := 14) scLaw.nd) (fun _ _ _ _ _ => (de_callS (i := 1) gOf hg (hr.mono (by omega)) T.of.mg T.of.kp T.of.bd (ds := [.list (B.map wbD)]) (d := wbD (ofW B (runG (fun _ s => ofW B s) k s8).2).1) (sr' := (ofW B (runG (fun _ s => ofW B s) k s8).2).2) (psOf_webs hB.1 (by have := hB.2.1; omega)) (ow 1) (da_cons (nv 3) da_nil))) (by first | exact G.Wk.refl _ | (repeat (first | exact G.Wk.nil | apply G.Wk.cons | apply G.Wk.drop)))
        · rw [el]
          exact mrg_un rfl (by (intro j hj; first | (cases hj with | head => rfl | tail _ h => cases h) | (cases hj with | head => rfl | tail _ h => cases h with | head => rfl | tail _ h => cases h) | (cases hj with | head => rfl | tail _ h => cases h with | head => rfl | tail _ h => cases h with | head => rfl | tail _ h => cases h)))
        · rw [el]
          omega
        · rw [el]
          exact Wk.refl _
      · exact ⟨_, ⟨M, s7, hM, rfl⟩, ds_ifF (dt_eqIf (i := ((wy : Nat) : Int)) (j := 3) (by omega) (nv 6) de_int) db_nil⟩
    clear hM
    obtain ⟨M0, s7, hM0, rfl⟩ := hJ
    refine bx_still (i := 5) (xs := M0.map wbD) ?_
    refine bx_at [.d (.list (ns.map .int)), .o (.src sa s7), .d (.int (i : Nat)), .d (.list (B.map wbD)), .d (.list (L.map wbD)), .d (.list (M0.map wbD)), .d (.int (wy : Nat)), .un, .un, .un, .un, .un, .un, .un, .un, .un, .un, .un] rfl ?_
    have mp := anyS_perm M0 s7
    have mm := anyS_map wbD M0 s7
    generalize anyS M0 s7 = p at mp mm
    obtain ⟨M, s8⟩ := p
    dsimp only at mp mm
    have hM : Ls 5 M := ⟨by rw [mp.length_eq]; exact hM0.1, by rw [mp.length_eq]; exact hM0.2.1, fun W hW => hM0.2.2 W (mp.mem_iff.mp hW)⟩
    have l0 := hM0.2.1
    obtain ⟨r1, r2⟩ := pick_in s8 (many := 3) (by omega)
    generalize hpr : pick s8 3 = p at r1 r2
    obtain ⟨rI, s9⟩ := p
    dsimp only at r1 r2
    obtain ⟨r, rfl⟩ : ∃ r : Nat, rI = r := ⟨rI.toNat, by omega⟩
    have r2 : r ≤ 2 := by omega
    refine bx_cons (ds_par3 (i := 4) (j := 5) (m := 7) (d1 := .tuple (L.map wbD)) (d2 := .tuple (M.map wbD)) (d3 := .int (r : Nat)) (ρ1 := [.d (.list (ns.map .int)), .o (.src sa s9), .d (.int (i : Nat)), .d (.list (B.map wbD)), .d (.list (L.map wbD)), .d (.list (M0.map wbD)), .d (.int (wy : Nat)), .un, .un, .un, .un, .un, .un, .un, .un, .un, .un, .un]) rfl scLaw.nd (da_cons (de_tupL .d T.tuple_ (nv 4)) (da_cons (de_tupL .d T.tuple_ (de_callS (i := 1) gAny hg (hr.mono (by omega)) T.any.mg T.any.kp T.any.bd (ds := [.list (M0.map wbD)]) (d := .list (M.map wbD)) (sr' := s8) ⟨M0.map wbD, by rw [List.length_map]; omega, rfl, by rw [mm], by rw [mm]⟩ (ow 1) (da_cons (nv 5) da_nil))) (da_cons (de_callS (i := 1) gPick hg (hr.mono (by omega)) T.pick.mg T.pick.kp T.pick.bd (ds := [.int 3]) (d := .int (r : Nat)) (sr' := s9) ⟨3, by omega, rfl, by rw [hpr], by rw [hpr]⟩ (ow 1) (da_cons de_int da_nil)) da_nil)))) ?_
    refine bx_at [.d (.list (ns.map .int)), .o (.src sa s9), .d (.int (i : Nat)), .d (.list (B.map wbD)), .d (.tuple (L.map wbD)), .d (.tuple (M.map wbD)), .d (.int (wy : Nat)), .d (.int (r : Nat)), .un, .un, .un, .un, .un, .un, .un, .un, .un, .un] rfl ?_
    clear mp mm hM0 l0 hpr r1
    have sh := hL.sh hM (by decide) (by decide)
    refine bx_cons (ds_par (i := 8) (j := 9) (d1 := .str (PyData.list [.tuple (L.map wbD), .tuple (M.map wbD)]).shown) (d2 := tcD r L) (ρ1 := [.d (.list (ns.map .int)), .o (.src sa s9), .d (.int (i : Nat)), .d (.list (B.map wbD)), .d (.tuple (L.map wbD)), .d (.tuple (M.map wbD)), .d (.int (wy : Nat)), .d (.int (r : Nat)), .un, .un, .un, .un, .un, .un, .un, .un, .un, .un]) rfl scLaw.nd (da_cons (de_repr hg hu sh.1 sh.2.1 sh.2.2 T.repr_ (DL.de (dl_lst (da_cons (nv 4) (da_cons (nv 5) da_nil))))) (da_cons (de_callP gTC hg (hr.mono (by omega)) T.tc.mg T.tc.kp T.tc.bd (ds := [.tuple (L.map wbD), .int r]) (d := tcD r L) ⟨L, r, r2, (hL.ws (by decide) r2), rfl, rfl⟩ (da_cons (nv 4) (da_cons (nv 7) da_nil))) da_nil))) ?_
    refine bx_at [.d (.list (ns.map .int)), .o (.src sa s9), .d (.int (i : Nat)), .d (.list (B.map wbD)), .d (.tuple (L.map wbD)), .d (.tuple (M.map wbD)), .d (.int (wy : Nat)), .d (.int (r : Nat)), .d (.str (PyData.list [.tuple (L.map wbD), .tuple (M.map wbD)]).shown), .d (tcD r L), .un, .un, .un, .un, .un, .un, .un, .un] rfl ?_
    refine bx_cons (ds_setF (i := 10) (ρ1 := [.d (.list (ns.map .int)), .o (.src sa s9), .d (.int (i : Nat)), .d (.list (B.map wbD)), .d (.tuple (L.map wbD)), .d (.tuple (M.map wbD)), .d (.int (wy : Nat)), .d (.int (r : Nat)), .d (.str (PyData.list [.tuple (L.map wbD), .tuple (M.map wbD)]).shown), .d (tcD r L), .un, .un, .un, .un, .un, .un, .un, .un]) scLaw.nd (df_callO gLC hg (hr.mono (by omega)) T.lc.mg T.lc.kp T.lc.bd (ds := [.tuple (L.map wbD), .int r]) (b0 := .dk (cntD (tyL r L))) ⟨L, r, r2, (hL.ws (by decide) r2), rfl, rfl⟩ (da_cons (nv 4) (da_cons (nv 7) da_nil)))) ?_
    refine bx_at [.d (.list (ns.map .int)), .o (.src sa s9), .d (.int (i : Nat)), .d (.list (B.map wbD)), .d (.tuple (L.map wbD)), .d (.tuple (M.map wbD)), .d (.int (wy : Nat)), .d (.int (r : Nat)), .d (.str (PyData.list [.tuple (L.map wbD), .tuple (M.map wbD)]).shown), .d (tcD r L), .o (.dk (cntD (tyL r L))), .un, .un, .un, .un, .un, .un, .un] rfl ?_
    have wsl : Ws r L := (hL.ws (by decide) r2)
    have sm := wsl.sm r2
    have lo : (onceT (tyL r L)).length ≤ 20 := Nat.le_trans (onceT_len _) (by rw [tyL_len]; exact wsl.1)
    have h64 : (((tyL r L).foldl addK []).map txt).length < 64 := by
      have := fold_len2 (tyL r L)
      rw [tyL_len] at this
      have := wsl.1
      rw [List.length_map]; omega
    have et : ((onceT (tyL r L)).map txt).map PyData.str = (onceT (tyL r L)).map fun k => PyData.str (txt k) := by rw [List.map_map]; rfl
    have tsh := txs_sh sm
    refine bx_ifF (ρ1 := [.d (.list (ns.map .int)), .o (.src sa s9), .d (.int (i : Nat)), .d (.list (B.map wbD)), .d (.tuple (L.map wbD)), .d (.tuple (M.map wbD)), .d (.int (wy : Nat)), .d (.int (r : Nat)), .d (.str (PyData.list [.tuple (L.map wbD), .tuple (M.map wbD)]).shown), .d (tcD r L), .o (.dk (cntD (tyL r L))), .un, .un, .un, .un, .un, .un, .un]) (dt_is (dt_neD (x := txs (tyL r L)) (y := txs (tyL r L)) hw tsh tsh (DL.de (dl_mapA (onceT (tyL r L)) (fun k => .tuple [k.data, .int (cnt k (tyL r L) : Nat)]) (fun k => .tuple [.str (txt k), .int (cnt k (tyL r L) : Nat)]) [("one", 12), ("many", 16)] rfl scLaw.nd (blkOk_by (N := nLaw) (sc := defScope sLaw) (by decide +kernel)) (di_tup (nv 9)) (by (intro j hj; first | (cases hj with | head => rfl | tail _ h => cases h) | (cases hj with | head => rfl | tail _ h => cases h with | head => rfl | tail _ h => cases h) | (cases hj with | head => rfl | tail _ h => cases h with | head => rfl | tail _ h => cases h with | head => rfl | tail _ h => cases h))) (fun k h => ?_) (by omega))) (DL.de (dl_mapA (onceT (tyL r L)) (fun k => .str (txt k)) (fun k => .tuple [.str (txt k), .int (cnt k (tyL r L) : Nat)]) [("text", 17)] rfl scLaw.nd (blkOk_by (N := nLaw) (sc := defScope sLaw) (by decide +kernel)) (di_is et (di_list (DL.de (dl_sortTx (i := 10) (kvs := cntD (tyL r L)) (ks := ((tyL r L).foldl addK []).map txt) rfl (by unfold cntD ofK; rw [List.map_map, List.map_map]; rfl) h64 (fun ys hp hs => sortedS_uniq hp hs) T.sorted_ (ow 10))))) (by (intro j hj; first | (cases hj with | head => rfl | tail _ h => cases h) | (cases hj with | head => rfl | tail _ h => cases h with | head => rfl | tail _ h => cases h) | (cases hj with | head => rfl | tail _ h => cases h with | head => rfl | tail _ h => cases h with | head => rfl | tail _ h => cases h))) (fun k h => ?_) (by omega)))) (by rw [eqv_sh tsh]; rfl)) ?_
    · have hs := wsl.sh r2 k (mem_onceT.mp h)
      exact ⟨_, _, _, fun _ _ _ _ _ => (dg_tup rfl (dgs_cons (dg_name (i := 12) scLaw.nd) (dgs_cons (dg_name (i := 16) scLaw.nd) dgs_nil))), fun _ _ _ _ _ => de_tup (da_cons (de_repr hg (by show _ + 100 < cLine; exact hu) hs.1 hs.2.1 hs.2.2 T.repr_ (nv 12)) (da_cons (nv 16) da_nil)), by simp, by first | exact G.Wk.refl _ | (repeat (first | exact G.Wk.nil | apply G.Wk.cons | apply G.Wk.drop))⟩
    · have hk : k ∈ tyL r L := mem_onceT.mp h
      exact ⟨_, _, _, fun _ _ _ _ _ => dg_name (i := 17) scLaw.nd, fun _ _ _ _ _ => de_tup (da_cons (nv 17) (da_cons (de_dix (k := .inr (txt k)) (s := cntD (tyL r L)) (by show _ + 100 < cLine; exact hu) (.o (i := 10) rfl) (by unfold cntD; rw [lk_ofK (sm k hk) fun z hz => sm z (mem_fold.mp hz), if_pos (mem_fold.mpr hk)]) (ow 10) (nv 17)) da_nil)), by simp, by first | exact G.Wk.refl _ | (repeat (first | exact G.Wk.nil | apply G.Wk.cons | apply G.Wk.drop))⟩
    refine bx_cons (ds_set (i := 11) (ρ1 := [.d (.list (ns.map .int)), .o (.src sa s9), .d (.int (i : Nat)), .d (.list (B.map wbD)), .d (.tuple (L.map wbD)), .d (.tuple (M.map wbD)), .d (.int (wy : Nat)), .d (.int (r : Nat)), .d (.str (PyData.list [.tuple (L.map wbD), .tuple (M.map wbD)]).shown), .d (tcD r L), .o (.dk (cntD (tyL r L))), .un, .un, .un, .un, .un, .un, .un]) scLaw.nd (de_callP gLA hg (hr.mono (by omega)) T.la.mg T.la.kp T.la.bd (ds := [.tuple (L.map wbD), .tuple (M.map wbD), .int r]) (d := .bool (okB r (tyL r L) (tyL r M))) ⟨L, M, r, r2, (hL.ws (by decide) r2), (hM.ws (by decide) r2), rfl, rfl⟩ (da_cons (nv 4) (da_cons (nv 5) (da_cons (nv 7) da_nil))))) ?_
    refine bx_at [.d (.list (ns.map .int)), .o (.src sa s9), .d (.int (i : Nat)), .d (.list (B.map wbD)), .d (.tuple (L.map wbD)), .d (.tuple (M.map wbD)), .d (.int (wy : Nat)), .d (.int (r : Nat)), .d (.str (PyData.list [.tuple (L.map wbD), .tuple (M.map wbD)]).shown), .d (tcD r L), .o (.dk (cntD (tyL r L))), .d (.bool (okB r (tyL r L) (tyL r M))), .un, .un, .un, .un, .un, .un] rfl ?_
    refine bx_ifF (ρ1 := [.d (.list (ns.map .int)), .o (.src sa s9), .d (.int (i : Nat)), .d (.list (B.map wbD)), .d (.tuple (L.map wbD)), .d (.tuple (M.map wbD)), .d (.int (wy : Nat)), .d (.int (r : Nat)), .d (.str (PyData.list [.tuple (L.map wbD), .tuple (M.map wbD)]).shown), .d (tcD r L), .o (.dk (cntD (tyL r L))), .d (.bool (okB r (tyL r L) (tyL r M))), .un, .un, .un, .un, .un, .un]) (DW.dt (dw_orF (dt_is (dt_neB (de_callP gCA hg (hr.mono (by omega)) T.ca.mg T.ca.kp T.ca.bd (ds := [.tuple (L.map wbD), .tuple (M.map wbD), .int r]) (d := .bool (okB r (tyL r L) (tyL r M))) ⟨L, M, r, r2, (hL.ws (by decide) r2), (hM.ws (by decide) r2), rfl, rfl⟩ (da_cons (nv 4) (da_cons (nv 5) (da_cons (nv 7) da_nil)))) (nv 11)) (by simp)) (dw_or1 (dt_is (dt_neB (de_callP gCA hg (hr.mono (by omega)) T.ca.mg T.ca.kp T.ca.bd (ds := [.tuple (M.map wbD), .tuple (L.map wbD), .int r]) (d := .bool (okB r (tyL r M) (tyL r L))) ⟨M, L, r, r2, (hM.ws (by decide) r2), (hL.ws (by decide) r2), rfl, rfl⟩ (da_cons (nv 5) (da_cons (nv 4) (da_cons (nv 7) da_nil)))) (nv 11)) (by rw [ok_swap]; simp))))) ?_
    have hak : okB r (tyL r L) (tyL r M) = true → Alk r L M := ok_alk (by omega) hL.dg hM.dg
    obtain ⟨A1, L1, e1⟩ := ls_cons hL
    obtain ⟨A2, L2, e2⟩ := ls_cons hM
    have q1 := (e1 ▸ hL : Ls 3 (A1 :: L1)).sum (by decide)
    have q2 := (e2 ▸ hM : Ls 5 (A2 :: L2)).sum (by decide)
    have kp : okB r (tyL r L) (tyL r M) = true → keptB (sumL false A1 L1) (sumL false A2 L2) r [] [] = true := fun h => by
      have a := hak h
      rw [e1, e2] at a
      exact alk_sums (A := A1) (B := A2) (L := L1) (M := L2) (fun W hW => (hL.2.2 W (e1 ▸ hW)).gd) (fun W hW => (hM.2.2 W (e2 ▸ hW)).gd) a
    have t1 : PyData.tuple (L.map wbD) = .tuple (wbD A1 :: L1.map wbD) := by rw [e1]; rfl
    have t2 : PyData.tuple (M.map wbD) = .tuple (wbD A2 :: L2.map wbD) := by rw [e2]; rfl
    have p1 : psAL false [.tuple (wbD A1 :: L1.map wbD)] (wbD (sumL false A1 L1)) := ⟨A1, L1, (hL.2.2 A1 (e1 ▸ List.mem_cons_self)).gd, fun V hV => have h := hL.2.2 V (e1 ▸ List.mem_cons_of_mem _ hV); ⟨h.gd, Nat.le_trans h.hi (by decide)⟩, q1.2.1, rfl, rfl⟩
    have p2 : psAL false [.tuple (wbD A2 :: L2.map wbD)] (wbD (sumL false A2 L2)) := ⟨A2, L2, (hM.2.2 A2 (e2 ▸ List.mem_cons_self)).gd, fun V hV => have h := hM.2.2 V (e2 ▸ List.mem_cons_of_mem _ hV); ⟨h.gd, Nat.le_trans h.hi (by decide)⟩, q2.2.1, rfl, rfl⟩
    rw [← t1] at p1
    rw [← t2] at p2
    generalize sumL false A1 L1 = W1 at q1 kp p1
    generalize sumL false A2 L2 = V1 at q2 kp p2
    refine bx_cons (ds_par (i := 12) (j := 13) (d1 := wbD W1) (d2 := wbD V1) (ρ1 := [.d (.list (ns.map .int)), .o (.src sa s9), .d (.int (i : Nat)), .d (.list (B.map wbD)), .d (.tuple (L.map wbD)), .d (.tuple (M.map wbD)), .d (.int (wy : Nat)), .d (.int (r : Nat)), .d (.str (PyData.list [.tuple (L.map wbD), .tuple (M.map wbD)]).shown), .d (tcD r L), .o (.dk (cntD (tyL r L))), .d (.bool (okB r (tyL r L) (tyL r M))), .un, .un, .un, .un, .un, .un]) rfl scLaw.nd (da_cons (de_callP gAB hg (hr.mono (by omega)) T.allb.mg T.allb.kp T.allb.bd (ds := [.tuple (L.map wbD)]) (d := wbD W1) p1 (da_cons (nv 4) da_nil)) (da_cons (de_callP gAB hg (hr.mono (by omega)) T.allb.mg T.allb.kp T.allb.bd (ds := [.tuple (M.map wbD)]) (d := wbD V1) p2 (da_cons (nv 5) da_nil)) da_nil))) ?_
    refine bx_at [.d (.list (ns.map .int)), .o (.src sa s9), .d (.int (i : Nat)), .d (.list (B.map wbD)), .d (.tuple (L.map wbD)), .d (.tuple (M.map wbD)), .d (.int (wy : Nat)), .d (.int (r : Nat)), .d (.str (PyData.list [.tuple (L.map wbD), .tuple (M.map wbD)]).shown), .d (tcD r L), .o (.dk (cntD (tyL r L))), .d (.bool (okB r (tyL r L) (tyL r M))), .d (wbD W1), .d (wbD V1), .un, .un, .un, .un] rfl ?_
    refine bx_cons (ds_if (x := decide ((W1.n : Int) < 8) && decide ((V1.n : Int) < 8)) (ρ1 := [.d (.list (ns.map .int)), .o (.src sa s9), .d (.int (i : Nat)), .d (.list (B.map wbD)), .d (.tuple (L.map wbD)), .d (.tuple (M.map wbD)), .d (.int (wy : Nat)), .d (.int (r : Nat)), .d (.str (PyData.list [.tuple (L.map wbD), .tuple (M.map wbD)]).shown), .d (tcD r L), .o (.dk (cntD (tyL r L))), .d (.bool (okB r (tyL r L) (tyL r M))), .d (wbD W1), .d (wbD V1), .un, .un, .un, .un]) (o := .nx [.d (.list (ns.map .int)), .o (.src sa s9), .d (.int (i : Nat)), .d (.list (B.map wbD)), .d (.tuple (L.map wbD)), .d (.tuple (M.map wbD)), .d (.int (wy : Nat)), .d (.int (r : Nat)), .d (.str (PyData.list [.tuple (L.map wbD), .tuple (M.map wbD)]).shown), .un, .o (.dk (cntD (tyL r L))), .d (.bool (okB r (tyL r L) (tyL r M))), .d (wbD W1), .d (wbD V1), .un, .un, .un, .un]) (DW.dt (dw_and (dt_lt (de_w0 (W := W1) (nv 12)) de_int) (fun _ => dw_and1 (dt_lt (de_w0 (W := V1) (nv 13)) de_int)) (fun _ => rfl))) (fun h => ?_) (fun _ => db_end (by first | exact G.Wk.refl _ | (repeat (first | exact G.Wk.nil | apply G.Wk.cons | apply G.Wk.drop))))) ?_
    · rw [Bool.and_eq_true, decide_eq_true_iff, decide_eq_true_iff] at h
      have nW : W1.n < 8 := by omega
      have nV : V1.n < 8 := by omega
      have dW := q1.2.2 nW
      have dV := q2.2.2 nV
      refine db_cons (ds_set (i := 9) (y := .bool (keptB W1 V1 r [] [])) (ρ1 := [.d (.list (ns.map .int)), .o (.src sa s9), .d (.int (i : Nat)), .d (.list (B.map wbD)), .d (.tuple (L.map wbD)), .d (.tuple (M.map wbD)), .d (.int (wy : Nat)), .d (.int (r : Nat)), .d (.str (PyData.list [.tuple (L.map wbD), .tuple (M.map wbD)]).shown), .d (tcD r L), .o (.dk (cntD (tyL r L))), .d (.bool (okB r (tyL r L) (tyL r M))), .d (wbD W1), .d (wbD V1), .un, .un, .un, .un]) scLaw.nd (de_callP gAK hg (hr.mono (by omega)) T.ak.mg T.ak.kp T.ak.bd (ds := [wbD W1, .tuple (([] : List Int).map .int), wbD V1, .tuple (([] : List Int).map .int), .int r]) (d := .bool (keptB W1 V1 r [] [])) ⟨W1, V1, [], [], r, r2, dW, dV, (fun _ z => nomatch z), (fun _ z => nomatch z), rfl, by simp only [List.length_nil]; omega, bR7 nW r2, bR7 nV r2, rfl, rfl⟩ (da_cons (nv 12) (da_cons (de_tup (xs := []) da_nil) (da_cons (nv 13) (da_cons (de_tup (xs := []) da_nil) (da_cons (nv 7) da_nil))))))) ?_
      refine db_at [.d (.list (ns.map .int)), .o (.src sa s9), .d (.int (i : Nat)), .d (.list (B.map wbD)), .d (.tuple (L.map wbD)), .d (.tuple (M.map wbD)), .d (.int (wy : Nat)), .d (.int (r : Nat)), .d (.str (PyData.list [.tuple (L.map wbD), .tuple (M.map wbD)]).shown), .d (.bool (keptB W1 V1 r [] [])), .o (.dk (cntD (tyL r L))), .d (.bool (okB r (tyL r L) (tyL r M))), .d (wbD W1), .d (wbD V1), .un, .un, .un, .un] rfl ?_
      refine db_ifF (ρ1 := [.d (.list (ns.map .int)), .o (.src sa s9), .d (.int (i : Nat)), .d (.list (B.map wbD)), .d (.tuple (L.map wbD)), .d (.tuple (M.map wbD)), .d (.int (wy : Nat)), .d (.int (r : Nat)), .d (.str (PyData.list [.tuple (L.map wbD), .tuple (M.map wbD)]).shown), .d (.bool (keptB W1 V1 r [] [])), .o (.dk (cntD (tyL r L))), .d (.bool (okB r (tyL r L) (tyL r M))), .d (wbD W1), .d (wbD V1), .un, .un, .un, .un]) (dt_is (DW.dt (dw_and (dt_val (nv 11)) (fun _ => dw_and1 (dt_isnotB (nv 9) de_bl)) (fun _ => rfl))) (by
        cases ha : okB r (tyL r L) (tyL r M) with
        | false => rfl
        | true => rw [kp ha]; rfl)) ?_
      refine db_ifF (ρ1 := [.d (.list (ns.map .int)), .o (.src sa s9), .d (.int (i : Nat)), .d (.list (B.map wbD)), .d (.tuple (L.map wbD)), .d (.tuple (M.map wbD)), .d (.int (wy : Nat)), .d (.int (r : Nat)), .d (.str (PyData.list [.tuple (L.map wbD), .tuple (M.map wbD)]).shown), .d (.bool (keptB W1 V1 r [] [])), .o (.dk (cntD (tyL r L))), .d (.bool (okB r (tyL r L) (tyL r M))), .d (wbD W1), .d (wbD V1), .un, .un, .un, .un]) (dt_is (DW.dt (dw_and (dt_lt (de_mul (.inl ⟨by omega, by omega⟩) (de_w0 (W := W1) (nv 12)) (de_w0 (W := V1) (nv 13))) de_int) (fun _ => dw_and1 (dt_neB (de_callP gIK hg (hr.mono (by omega)) T.ik.mg T.ik.kp T.ik.bd (ds := [wbD W1, .tuple (([] : List Int).map .int), wbD V1, .tuple (([] : List Int).map .int), .int r]) (d := .bool (keptB W1 V1 r [] [])) ⟨W1, V1, [], [], r, r2, dW.ok, dV.ok, (fun _ z => nomatch z), (fun _ z => nomatch z), rfl, by simp only [List.length_nil]; omega, rfl, rfl⟩ (da_cons (nv 12) (da_cons (de_tup (xs := []) da_nil) (da_cons (nv 13) (da_cons (de_tup (xs := []) da_nil) (da_cons (nv 7) da_nil)))))) (nv 9))) (fun _ => rfl))) (by simp)) ?_
      exact db_end (by first | exact G.Wk.refl _ | (repeat (first | exact G.Wk.nil | apply G.Wk.cons | apply G.Wk.drop)))
    refine bx_at [.d (.list (ns.map .int)), .o (.src sa s9), .d (.int (i : Nat)), .d (.list (B.map wbD)), .d (.tuple (L.map wbD)), .d (.tuple (M.map wbD)), .d (.int (wy : Nat)), .d (.int (r : Nat)), .d (.str (PyData.list [.tuple (L.map wbD), .tuple (M.map wbD)]).shown), .un, .o (.dk (cntD (tyL r L))), .d (.bool (okB r (tyL r L) (tyL r M))), .d (wbD W1), .d (wbD V1), .un, .un, .un, .un] rfl ?_
    refine bx_ifF (ρ1 := [.d (.list (ns.map .int)), .o (.src sa s9), .d (.int (i : Nat)), .d (.list (B.map wbD)), .d (.tuple (L.map wbD)), .d (.tuple (M.map wbD)), .d (.int (wy : Nat)), .d (.int (r : Nat)), .d (.str (PyData.list [.tuple (L.map wbD), .tuple (M.map wbD)]).shown), .un, .o (.dk (cntD (tyL r L))), .d (.bool (okB r (tyL r L) (tyL r M))), .d (wbD W1), .d (wbD V1), .un, .un, .un, .un]) (dt_neSame (de_repr hg hu sh.1 sh.2.1 sh.2.2 T.repr_ (DL.de (dl_lst (da_cons (nv 4) (da_cons (nv 5) da_nil))))) (nv 8)) ?_
    exact bx_nil [.d (.list (ns.map .int)), .o (.src sa s9), .un, .un, .un, .un, .un, .un, .un, .un, .un, .un, .un, .un, .un, .un, .un, .un] ⟨s9, rfl⟩ (by first | exact G.Wk.refl _ | (repeat (first | exact G.Wk.nil | apply G.Wk.cons | apply G.Wk.drop)))
  obtain ⟨s0, rfl⟩ := hI
  have one : Rw 2 ⟨1, [0], []⟩ := ⟨by decide, by decide, rfl, by decide, by decide, by decide⟩
  have ls : ∀ n : Nat, 1 ≤ n → n ≤ 5 → Ls 5 (List.replicate n ⟨1, [0], []⟩) := fun n h1 h5 => ⟨by rw [List.length_replicate]; exact h1, by rw [List.length_replicate]; exact h5, fun W hW => by rw [(List.mem_replicate.mp hW).2]; exact one⟩
  have rep : ∀ n : Nat, PyData.tuple (List.replicate ((n : Int)).toNat [wbD ⟨1, [0], []⟩]).flatten = .tuple ((List.replicate n (⟨1, [0], []⟩ : Wb)).map wbD) := fun n => by
    rw [Int.toNat_natCast, List.map_replicate]
    congr 1
    induction n with
    | zero => rfl
    | succ n ih => rw [List.replicate_succ, List.flatten_cons, ih, List.replicate_succ]; rfl
  have fin : okB 2 (tyL 2 (List.replicate 2 ⟨1, [0], []⟩)) (tyL 2 (List.replicate 3 ⟨1, [0], []⟩)) = true := by
    unfold tyL
    rw [List.map_replicate, List.map_replicate]
    generalize tyR ⟨1, [0], []⟩ 2 [] = k
    simp [okB, fitB, cnt]
  exact db_rtW (ρ1 := [.d (.list (ns.map .int)), .o (.src sa s0), .un, .un, .un, .un, .un, .un, .un, .un, .un, .un, .un, .un, .un, .un, .un, .un]) (db_one (ds_ret (de_is (de_callP gCA hg (hr.mono (by omega)) T.ca.mg T.ca.kp T.ca.bd (ds := [.tuple ((List.replicate 2 (⟨1, [0], []⟩ : Wb)).map wbD), .tuple ((List.replicate 3 (⟨1, [0], []⟩ : Wb)).map wbD), .int (2 : Nat)]) (d := .bool (okB 2 (tyL 2 (List.replicate 2 ⟨1, [0], []⟩)) (tyL 2 (List.replicate 3 ⟨1, [0], []⟩)))) ⟨List.replicate 2 ⟨1, [0], []⟩, List.replicate 3 ⟨1, [0], []⟩, 2, by decide, (ls 2 (by decide) (by decide)).ws (by decide) (by decide), (ls 3 (by decide) (by decide)).ws (by decide) (by decide), rfl, rfl⟩ (da_cons (de_is (de_repZ (k := ((2 : Nat) : Int)) (xs := [wbD ⟨1, [0], []⟩]) (by omega) (by omega) (by simp) (by decide) (de_tup (da_cons (de_tup (xs := [.int 1, .tuple [.int 0], .tuple []]) (da_cons de_int (da_cons (de_tup (da_cons de_int da_nil)) (da_cons (de_tup (xs := []) da_nil) da_nil)))) da_nil)) de_int) (rep 2)) (da_cons (de_is (de_repZ (k := ((3 : Nat) : Int)) (xs := [wbD ⟨1, [0], []⟩]) (by omega) (by omega) (by simp) (by decide) (de_tup (da_cons (de_tup (xs := [.int 1, .tuple [.int 0], .tuple []]) (da_cons de_int (da_cons (de_tup (da_cons de_int da_nil)) (da_cons (de_tup (xs := []) da_nil) da_nil)))) da_nil)) de_int) (rep 3)) (da_cons de_int da_nil)))) (by rw [fin])))) (by first | exact G.Wk.refl _ | (repeat (first | exact G.Wk.nil | apply G.Wk.cons | apply G.Wk.drop)))
end
end G

set_option Elab.async false
set_option linter.all false
set_option maxRecDepth 100000
/- the law holds -/
namespace G
open PySem L2
theorem all_mk {l : PySem.W.OpenLaw} {w : World} {K : PySem.W.Frag} {h : Heap} {mg : Str → Option Value} {fa f1 f2 f3 f4 f5 f6 f7 f8 f9 f10 f11 f12 f13 f14 f15 f16 f17 f18 f19 f20 f21 f22 f23 f24 f25 : Addr} (X : K.In h) (G : h.Ns mainGlobals mg) (hfa : mg "law" = some (.ref fa))
    {od1 an1 od2 an2 od3 an3 od4 an4 od5 an5 od6 an6 od7 an7 od8 an8 od9 an9 od10 an10 od11 an11 od12 an12 od13 an13 od14 an14 od15 an15 od16 an16 od17 an17 od18 an18 od19 an19 od20 an20 od21 an21 od22 an22 od23 an23 od24 an24 od25 an25 : Option Addr} {sl1 sl2 sl3 sl4 sl5 sl6 sl7 sl8 sl9 sl10 sl11 sl12 sl13 sl14 sl15 sl16 sl17 sl18 sl19 sl20 sl21 sl22 sl23 sl24 sl25 : Array (Option Value)} {oc1 kV1 dc1 pm1 cd1 ct1 oc2 kV2 dc2 pm2 cd2 ct2 oc3 kV3 dc3 pm3 cd3 ct3 oc4 kV4 dc4 pm4 cd4 ct4 oc5 kV5 dc5 pm5 cd5 ct5 oc6 kV6 dc6 pm6 cd6 ct6 oc7 kV7 dc7 pm7 cd7 ct7 oc8 kV8 dc8 pm8 cd8 ct8 oc9 kV9 dc9 pm9 cd9 ct9 oc10 kV10 dc10 pm10 cd10 ct10 oc11 kV11 dc11 pm11 cd11 ct11 oc12 kV12 dc12 pm12 cd12 ct12 oc13 kV13 dc13 pm13 cd13 ct13 oc14 kV14 dc14 pm14 cd14 ct14 oc15 kV15 dc15 pm15 cd15 ct15 oc16 kV16 dc16 pm16 cd16 ct16 oc17 kV17 dc17 pm17 cd17 ct17 oc18 kV18 dc18 pm18 cd18 ct18 oc19 kV19 dc19 pm19 cd19 ct19 oc20 kV20 dc20 pm20 cd20 ct20 oc21 kV21 dc21 pm21 cd21 ct21 oc22 kV22 dc22 pm22 cd22 ct22 oc23 kV23 dc23 pm23 cd23 ct23 oc24 kV24 dc24 pm24 cd24 ct24 oc25 kV25 dc25 pm25 cd25 ct25 : Value}
    (a1 : PySem.W.nsIn K mainGlobals "row_eye" = some (some (.ref f1))) (l1 : K.lookup f1 = some ⟨oc1, od1, .func (PySem.W.fnOf "row_eye" "row_eye" (defArgs s_row_eye) (defBody s_row_eye) (defScope s_row_eye) .none kV1 dc1 pm1 an1 cd1 ct1), sl1⟩) (c1 : PySem.W.codeIn K cd1 "row_eye" = true) (k1 : PySem.W.keepIn K (.ref f1) = true)
    (a2 : PySem.W.nsIn K mainGlobals "each_once" = some (some (.ref f2))) (l2 : K.lookup f2 = some ⟨oc2, od2, .func (PySem.W.fnOf "each_once" "each_once" (defArgs s_each_once) (defBody s_each_once) (defScope s_each_once) .none kV2 dc2 pm2 an2 cd2 ct2), sl2⟩) (c2 : PySem.W.codeIn K cd2 "each_once" = true) (k2 : PySem.W.keepIn K (.ref f2) = true)
    (a3 : PySem.W.nsIn K mainGlobals "rank_type" = some (some (.ref f3))) (l3 : K.lookup f3 = some ⟨oc3, od3, .func (PySem.W.fnOf "rank_type" "rank_type" (defArgs s_rank_type) (defBody s_rank_type) (defScope s_rank_type) .none kV3 dc3 pm3 an3 cd3 ct3), sl3⟩) (c3 : PySem.W.codeIn K cd3 "rank_type" = true) (k3 : PySem.W.keepIn K (.ref f3) = true)
    (a4 : PySem.W.nsIn K mainGlobals "are_kept" = some (some (.ref f4))) (l4 : K.lookup f4 = some ⟨oc4, od4, .func (PySem.W.fnOf "are_kept" "are_kept" (defArgs s_are_kept) (defBody s_are_kept) (defScope s_are_kept) .none kV4 dc4 pm4 an4 cd4 ct4), sl4⟩) (c4 : PySem.W.codeIn K cd4 "are_kept" = true) (k4 : PySem.W.keepIn K (.ref f4) = true)
    (a5 : PySem.W.nsIn K mainGlobals "type_counts" = some (some (.ref f5))) (l5 : K.lookup f5 = some ⟨oc5, od5, .func (PySem.W.fnOf "type_counts" "type_counts" (defArgs s_type_counts) (defBody s_type_counts) (defScope s_type_counts) .none kV5 dc5 pm5 an5 cd5 ct5), sl5⟩) (c5 : PySem.W.codeIn K cd5 "type_counts" = true) (k5 : PySem.W.keepIn K (.ref f5) = true)
    (a6 : PySem.W.nsIn K mainGlobals "are_counted_alike" = some (some (.ref f6))) (l6 : K.lookup f6 = some ⟨oc6, od6, .func (PySem.W.fnOf "are_counted_alike" "are_counted_alike" (defArgs s_are_counted_alike) (defBody s_are_counted_alike) (defScope s_are_counted_alike) .none kV6 dc6 pm6 an6 cd6 ct6), sl6⟩) (c6 : PySem.W.codeIn K cd6 "are_counted_alike" = true) (k6 : PySem.W.keepIn K (.ref f6) = true)
    (a7 : PySem.W.nsIn K mainGlobals "summed" = some (some (.ref f7))) (l7 : K.lookup f7 = some ⟨oc7, od7, .func (PySem.W.fnOf "summed" "summed" (defArgs s_summed) (defBody s_summed) (defScope s_summed) .none kV7 dc7 pm7 an7 cd7 ct7), sl7⟩) (c7 : PySem.W.codeIn K cd7 "summed" = true) (k7 : PySem.W.keepIn K (.ref f7) = true)
    (a8 : PySem.W.nsIn K mainGlobals "web_beside" = some (some (.ref f8))) (l8 : K.lookup f8 = some ⟨oc8, od8, .func (PySem.W.fnOf "web_beside" "web_beside" (defArgs s_web_beside) (defBody s_web_beside) (defScope s_web_beside) .none kV8 dc8 pm8 an8 cd8 ct8), sl8⟩) (c8 : PySem.W.codeIn K cd8 "web_beside" = true) (k8 : PySem.W.keepIn K (.ref f8) = true)
    (a9 : PySem.W.nsIn K mainGlobals "all_beside" = some (some (.ref f9))) (l9 : K.lookup f9 = some ⟨oc9, od9, .func (PySem.W.fnOf "all_beside" "all_beside" (defArgs s_all_beside) (defBody s_all_beside) (defScope s_all_beside) .none kV9 dc9 pm9 an9 cd9 ct9), sl9⟩) (c9 : PySem.W.codeIn K cd9 "all_beside" = true) (k9 : PySem.W.keepIn K (.ref f9) = true)
    (a10 : PySem.W.nsIn K mainGlobals "_law_source" = some (some (.ref f10))) (l10 : K.lookup f10 = some ⟨oc10, od10, .func (PySem.W.fnOf "_law_source" "_law_source" (defArgs sOpen) (defBody sOpen) (defScope sOpen) .none kV10 dc10 pm10 an10 cd10 ct10), sl10⟩) (c10 : PySem.W.codeIn K cd10 "_law_source" = true) (k10 : PySem.W.keepIn K (.ref f10) = true)
    (a11 : PySem.W.nsIn K mainGlobals "_law_pick" = some (some (.ref f11))) (l11 : K.lookup f11 = some ⟨oc11, od11, .func (PySem.W.fnOf "_law_pick" "_law_pick" (defArgs sPickB) (defBody sPickB) (defScope sPickB) .none kV11 dc11 pm11 an11 cd11 ct11), sl11⟩) (c11 : PySem.W.codeIn K cd11 "_law_pick" = true) (k11 : PySem.W.keepIn K (.ref f11) = true)
    (a12 : PySem.W.nsIn K mainGlobals "_law_of" = some (some (.ref f12))) (l12 : K.lookup f12 = some ⟨oc12, od12, .func (PySem.W.fnOf "_law_of" "_law_of" (defArgs s__law_of) (defBody s__law_of) (defScope s__law_of) .none kV12 dc12 pm12 an12 cd12 ct12), sl12⟩) (c12 : PySem.W.codeIn K cd12 "_law_of" = true) (k12 : PySem.W.keepIn K (.ref f12) = true)
    (a13 : PySem.W.nsIn K mainGlobals "_law_mixed" = some (some (.ref f13))) (l13 : K.lookup f13 = some ⟨oc13, od13, .func (PySem.W.fnOf "_law_mixed" "_law_mixed" (defArgs sAny) (defBody sAny) (defScope sAny) .none kV13 dc13 pm13 an13 cd13 ct13), sl13⟩) (c13 : PySem.W.codeIn K cd13 "_law_mixed" = true) (k13 : PySem.W.keepIn K (.ref f13) = true)
    (a14 : PySem.W.nsIn K mainGlobals "_law_told_web" = some (some (.ref f14))) (l14 : K.lookup f14 = some ⟨oc14, od14, .func (PySem.W.fnOf "_law_told_web" "_law_told_web" (defArgs s__law_told_web) (defBody s__law_told_web) (defScope s__law_told_web) .none kV14 dc14 pm14 an14 cd14 ct14), sl14⟩) (c14 : PySem.W.codeIn K cd14 "_law_told_web" = true) (k14 : PySem.W.keepIn K (.ref f14) = true)
    (a15 : PySem.W.nsIn K mainGlobals "_law_web" = some (some (.ref f15))) (l15 : K.lookup f15 = some ⟨oc15, od15, .func (PySem.W.fnOf "_law_web" "_law_web" (defArgs s__law_web) (defBody s__law_web) (defScope s__law_web) .none kV15 dc15 pm15 an15 cd15 ct15), sl15⟩) (c15 : PySem.W.codeIn K cd15 "_law_web" = true) (k15 : PySem.W.keepIn K (.ref f15) = true)
    (a16 : PySem.W.nsIn K mainGlobals "_law_called" = some (some (.ref f16))) (l16 : K.lookup f16 = some ⟨oc16, od16, .func (PySem.W.fnOf "_law_called" "_law_called" (defArgs s__law_called) (defBody s__law_called) (defScope s__law_called) .none kV16 dc16 pm16 an16 cd16 ct16), sl16⟩) (c16 : PySem.W.codeIn K cd16 "_law_called" = true) (k16 : PySem.W.keepIn K (.ref f16) = true)
    (a17 : PySem.W.nsIn K mainGlobals "_law_other" = some (some (.ref f17))) (l17 : K.lookup f17 = some ⟨oc17, od17, .func (PySem.W.fnOf "_law_other" "_law_other" (defArgs s__law_other) (defBody s__law_other) (defScope s__law_other) .none kV17 dc17 pm17 an17 cd17 ct17), sl17⟩) (c17 : PySem.W.codeIn K cd17 "_law_other" = true) (k17 : PySem.W.keepIn K (.ref f17) = true)
    (a18 : PySem.W.nsIn K mainGlobals "_law_is_same" = some (some (.ref f18))) (l18 : K.lookup f18 = some ⟨oc18, od18, .func (PySem.W.fnOf "_law_is_same" "_law_is_same" (defArgs s__law_is_same) (defBody s__law_is_same) (defScope s__law_is_same) .none kV18 dc18 pm18 an18 cd18 ct18), sl18⟩) (c18 : PySem.W.codeIn K cd18 "_law_is_same" = true) (k18 : PySem.W.keepIn K (.ref f18) = true)
    (a19 : PySem.W.nsIn K mainGlobals "_law_is_kept" = some (some (.ref f19))) (l19 : K.lookup f19 = some ⟨oc19, od19, .func (PySem.W.fnOf "_law_is_kept" "_law_is_kept" (defArgs s__law_is_kept) (defBody s__law_is_kept) (defScope s__law_is_kept) .none kV19 dc19 pm19 an19 cd19 ct19), sl19⟩) (c19 : PySem.W.codeIn K cd19 "_law_is_kept" = true) (k19 : PySem.W.keepIn K (.ref f19) = true)
    (a20 : PySem.W.nsIn K mainGlobals "_law_eye" = some (some (.ref f20))) (l20 : K.lookup f20 = some ⟨oc20, od20, .func (PySem.W.fnOf "_law_eye" "_law_eye" (defArgs s__law_eye) (defBody s__law_eye) (defScope s__law_eye) .none kV20 dc20 pm20 an20 cd20 ct20), sl20⟩) (c20 : PySem.W.codeIn K cd20 "_law_eye" = true) (k20 : PySem.W.keepIn K (.ref f20) = true)
    (a21 : PySem.W.nsIn K mainGlobals "_law_once" = some (some (.ref f21))) (l21 : K.lookup f21 = some ⟨oc21, od21, .func (PySem.W.fnOf "_law_once" "_law_once" (defArgs sOnce2) (defBody sOnce2) (defScope sOnce2) .none kV21 dc21 pm21 an21 cd21 ct21), sl21⟩) (c21 : PySem.W.codeIn K cd21 "_law_once" = true) (k21 : PySem.W.keepIn K (.ref f21) = true)
    (a22 : PySem.W.nsIn K mainGlobals "_law_type" = some (some (.ref f22))) (l22 : K.lookup f22 = some ⟨oc22, od22, .func (PySem.W.fnOf "_law_type" "_law_type" (defArgs s__law_type) (defBody s__law_type) (defScope s__law_type) .none kV22 dc22 pm22 an22 cd22 ct22), sl22⟩) (c22 : PySem.W.codeIn K cd22 "_law_type" = true) (k22 : PySem.W.keepIn K (.ref f22) = true)
    (a23 : PySem.W.nsIn K mainGlobals "_law_counts" = some (some (.ref f23))) (l23 : K.lookup f23 = some ⟨oc23, od23, .func (PySem.W.fnOf "_law_counts" "_law_counts" (defArgs s__law_counts) (defBody s__law_counts) (defScope s__law_counts) .none kV23 dc23 pm23 an23 cd23 ct23), sl23⟩) (c23 : PySem.W.codeIn K cd23 "_law_counts" = true) (k23 : PySem.W.keepIn K (.ref f23) = true)
    (a24 : PySem.W.nsIn K mainGlobals "_law_are_alike" = some (some (.ref f24))) (l24 : K.lookup f24 = some ⟨oc24, od24, .func (PySem.W.fnOf "_law_are_alike" "_law_are_alike" (defArgs s__law_are_alike) (defBody s__law_are_alike) (defScope s__law_are_alike) .none kV24 dc24 pm24 an24 cd24 ct24), sl24⟩) (c24 : PySem.W.codeIn K cd24 "_law_are_alike" = true) (k24 : PySem.W.keepIn K (.ref f24) = true)
    (a25 : PySem.W.nsIn K mainGlobals "law" = some (some (.ref f25))) (l25 : K.lookup f25 = some ⟨oc25, od25, .func (PySem.W.fnOf "law" "law" (defArgs sLaw) (defBody sLaw) (defScope sLaw) .none kV25 dc25 pm25 an25 cd25 ct25), sl25⟩) (c25 : PySem.W.codeIn K cd25 "law" = true) (k25 : PySem.W.keepIn K (.ref f25) = true)
    (z_len : PySem.W.nsIn K mainGlobals "len" = some none)
    (z_range : PySem.W.nsIn K mainGlobals "range" = some none)
    (z_tuple : PySem.W.nsIn K mainGlobals "tuple" = some none)
    (z_sorted : PySem.W.nsIn K mainGlobals "sorted" = some none)
    (z_enumerate : PySem.W.nsIn K mainGlobals "enumerate" = some none)
    (z_repr : PySem.W.nsIn K mainGlobals "repr" = some none)
    (z_abs : PySem.W.nsIn K mainGlobals "abs" = some none)
    (z_int : PySem.W.nsIn K mainGlobals "int" = some none)
    (z_max : PySem.W.nsIn K mainGlobals "max" = some none)
    (z_min : PySem.W.nsIn K mainGlobals "min" = some none)
    (z_set : PySem.W.nsIn K mainGlobals "set" = some none)
    (z_dict : PySem.W.nsIn K mainGlobals "dict" = some none)
    (z_any : PySem.W.nsIn K mainGlobals "any" = some none)
    (z_all : PySem.W.nsIn K mainGlobals "all" = some none)
    (z_list : PySem.W.nsIn K mainGlobals "list" = some none)
    (z_sum : PySem.W.nsIn K mainGlobals "sum" = some none)
    (z_isinstance : PySem.W.nsIn K mainGlobals "isinstance" = some none)
    (z_bool : PySem.W.nsIn K mainGlobals "bool" = some none)
    (z_str : PySem.W.nsIn K mainGlobals "str" = some none)
    (z_zip : PySem.W.nsIn K mainGlobals "zip" = some none)
    : ∃ fd : FuncData, (∀ (s : Shared) (v : Value), BindsTo s fd ⟨[v], []⟩ [("script", v)]) ∧ ∀ base : Heap, K.In base → base.Ns mainGlobals mg → FnG l.prog w K mg base 8 fa fd ["script"] (spP K psLaw) := by
  have e := hfa.symm.trans (PySem.W.mg_of X G a25)
  cases e
  have F1 := fun_mk (st := s_row_eye) l1 c1 k1
  have D1 : Df K mg "row_eye" s_row_eye f1 _ ["web", "row"] := ⟨F1, PySem.W.mg_of X G a1, k1, F1.binds (ps := ["web", "row"]) fun _ _ _ _ _ _ us hl => match us, hl with | [_, _], _ => rfl⟩
  have F2 := fun_mk (st := s_each_once) l2 c2 k2
  have D2 : Df K mg "each_once" s_each_once f2 _ ["types"] := ⟨F2, PySem.W.mg_of X G a2, k2, F2.binds (ps := ["types"]) fun _ _ _ _ _ _ us hl => match us, hl with | [_], _ => rfl⟩
  have F3 := fun_mk (st := s_rank_type) l3 c3 k3
  have D3 : Df K mg "rank_type" s_rank_type f3 _ ["web", "row", "r"] := ⟨F3, PySem.W.mg_of X G a3, k3, F3.binds (ps := ["web", "row", "r"]) fun _ _ _ _ _ _ us hl => match us, hl with | [_, _, _], _ => rfl⟩
  have F4 := fun_mk (st := s_are_kept) l4 c4 k4
  have D4 : Df K mg "are_kept" s_are_kept f4 _ ["one", "a", "other", "b", "r"] := ⟨F4, PySem.W.mg_of X G a4, k4, F4.binds (ps := ["one", "a", "other", "b", "r"]) fun _ _ _ _ _ _ us hl => match us, hl with | [_, _, _, _, _], _ => rfl⟩
  have F5 := fun_mk (st := s_type_counts) l5 c5 k5
  have D5 : Df K mg "type_counts" s_type_counts f5 _ ["webs", "r"] := ⟨F5, PySem.W.mg_of X G a5, k5, F5.binds (ps := ["webs", "r"]) fun _ _ _ _ _ _ us hl => match us, hl with | [_, _], _ => rfl⟩
  have F6 := fun_mk (st := s_are_counted_alike) l6 c6 k6
  have D6 : Df K mg "are_counted_alike" s_are_counted_alike f6 _ ["webs", "others", "r"] := ⟨F6, PySem.W.mg_of X G a6, k6, F6.binds (ps := ["webs", "others", "r"]) fun _ _ _ _ _ _ us hl => match us, hl with | [_, _, _], _ => rfl⟩
  have F7 := fun_mk (st := s_summed) l7 c7 k7
  have D7 : Df K mg "summed" s_summed f7 _ ["one", "other", "is_ahead"] := ⟨F7, PySem.W.mg_of X G a7, k7, F7.binds (ps := ["one", "other", "is_ahead"]) fun _ _ _ _ _ _ us hl => match us, hl with | [_, _, _], _ => rfl⟩
  have F8 := fun_mk (st := s_web_beside) l8 c8 k8
  have D8 : Df K mg "web_beside" s_web_beside f8 _ ["one", "other"] := ⟨F8, PySem.W.mg_of X G a8, k8, F8.binds (ps := ["one", "other"]) fun _ _ _ _ _ _ us hl => match us, hl with | [_, _], _ => rfl⟩
  have F9 := fun_mk (st := s_all_beside) l9 c9 k9
  have D9 : Df K mg "all_beside" s_all_beside f9 _ ["webs"] := ⟨F9, PySem.W.mg_of X G a9, k9, F9.binds (ps := ["webs"]) fun _ _ _ _ _ _ us hl => match us, hl with | [_], _ => rfl⟩
  have F10 := fun_mk (st := sOpen) l10 c10 k10
  have D10 : Df K mg "_law_source" sOpen f10 _ ["script"] := ⟨F10, PySem.W.mg_of X G a10, k10, F10.binds (ps := ["script"]) fun _ _ _ _ _ _ us hl => match us, hl with | [_], _ => rfl⟩
  have F11 := fun_mk (st := sPickB) l11 c11 k11
  have D11 : Df K mg "_law_pick" sPickB f11 _ ["source", "most"] := ⟨F11, PySem.W.mg_of X G a11, k11, F11.binds (ps := ["source", "most"]) fun _ _ _ _ _ _ us hl => match us, hl with | [_, _], _ => rfl⟩
  have F12 := fun_mk (st := s__law_of) l12 c12 k12
  have D12 : Df K mg "_law_of" s__law_of f12 _ ["source", "some"] := ⟨F12, PySem.W.mg_of X G a12, k12, F12.binds (ps := ["source", "some"]) fun _ _ _ _ _ _ us hl => match us, hl with | [_, _], _ => rfl⟩
  have F13 := fun_mk (st := sAny) l13 c13 k13
  have D13 : Df K mg "_law_mixed" sAny f13 _ ["source", "things"] := ⟨F13, PySem.W.mg_of X G a13, k13, F13.binds (ps := ["source", "things"]) fun _ _ _ _ _ _ us hl => match us, hl with | [_, _], _ => rfl⟩
  have F14 := fun_mk (st := s__law_told_web) l14 c14 k14
  have D14 : Df K mg "_law_told_web" s__law_told_web f14 _ ["n", "colors", "arrows"] := ⟨F14, PySem.W.mg_of X G a14, k14, F14.binds (ps := ["n", "colors", "arrows"]) fun _ _ _ _ _ _ us hl => match us, hl with | [_, _, _], _ => rfl⟩
  have F15 := fun_mk (st := s__law_web) l15 c15 k15
  have D15 : Df K mg "_law_web" s__law_web f15 _ ["source", "most"] := ⟨F15, PySem.W.mg_of X G a15, k15, F15.binds (ps := ["source", "most"]) fun _ _ _ _ _ _ us hl => match us, hl with | [_, _], _ => rfl⟩
  have F16 := fun_mk (st := s__law_called) l16 c16 k16
  have D16 : Df K mg "_law_called" s__law_called f16 _ ["source", "web"] := ⟨F16, PySem.W.mg_of X G a16, k16, F16.binds (ps := ["source", "web"]) fun _ _ _ _ _ _ us hl => match us, hl with | [_, _], _ => rfl⟩
  have F17 := fun_mk (st := s__law_other) l17 c17 k17
  have D17 : Df K mg "_law_other" s__law_other f17 _ ["source", "web", "most"] := ⟨F17, PySem.W.mg_of X G a17, k17, F17.binds (ps := ["source", "web", "most"]) fun _ _ _ _ _ _ us hl => match us, hl with | [_, _, _], _ => rfl⟩
  have F18 := fun_mk (st := s__law_is_same) l18 c18 k18
  have D18 : Df K mg "_law_is_same" s__law_is_same f18 _ ["one", "a", "other", "b"] := ⟨F18, PySem.W.mg_of X G a18, k18, F18.binds (ps := ["one", "a", "other", "b"]) fun _ _ _ _ _ _ us hl => match us, hl with | [_, _, _, _], _ => rfl⟩
  have F19 := fun_mk (st := s__law_is_kept) l19 c19 k19
  have D19 : Df K mg "_law_is_kept" s__law_is_kept f19 _ ["one", "a", "other", "b", "r"] := ⟨F19, PySem.W.mg_of X G a19, k19, F19.binds (ps := ["one", "a", "other", "b", "r"]) fun _ _ _ _ _ _ us hl => match us, hl with | [_, _, _, _, _], _ => rfl⟩
  have F20 := fun_mk (st := s__law_eye) l20 c20 k20
  have D20 : Df K mg "_law_eye" s__law_eye f20 _ ["web", "row"] := ⟨F20, PySem.W.mg_of X G a20, k20, F20.binds (ps := ["web", "row"]) fun _ _ _ _ _ _ us hl => match us, hl with | [_, _], _ => rfl⟩
  have F21 := fun_mk (st := sOnce2) l21 c21 k21
  have D21 : Df K mg "_law_once" sOnce2 f21 _ ["types"] := ⟨F21, PySem.W.mg_of X G a21, k21, F21.binds (ps := ["types"]) fun _ _ _ _ _ _ us hl => match us, hl with | [_], _ => rfl⟩
  have F22 := fun_mk (st := s__law_type) l22 c22 k22
  have D22 : Df K mg "_law_type" s__law_type f22 _ ["web", "row", "r"] := ⟨F22, PySem.W.mg_of X G a22, k22, F22.binds (ps := ["web", "row", "r"]) fun _ _ _ _ _ _ us hl => match us, hl with | [_, _, _], _ => rfl⟩
  have F23 := fun_mk (st := s__law_counts) l23 c23 k23
  have D23 : Df K mg "_law_counts" s__law_counts f23 _ ["webs", "r"] := ⟨F23, PySem.W.mg_of X G a23, k23, F23.binds (ps := ["webs", "r"]) fun _ _ _ _ _ _ us hl => match us, hl with | [_, _], _ => rfl⟩
  have F24 := fun_mk (st := s__law_are_alike) l24 c24 k24
  have D24 : Df K mg "_law_are_alike" s__law_are_alike f24 _ ["webs", "others", "r"] := ⟨F24, PySem.W.mg_of X G a24, k24, F24.binds (ps := ["webs", "others", "r"]) fun _ _ _ _ _ _ us hl => match us, hl with | [_, _, _], _ => rfl⟩
  have T0 : Bt mg := ⟨PySem.W.mg_none_of X G z_len, PySem.W.mg_none_of X G z_range, PySem.W.mg_none_of X G z_tuple, PySem.W.mg_none_of X G z_sorted, PySem.W.mg_none_of X G z_enumerate, PySem.W.mg_none_of X G z_repr, PySem.W.mg_none_of X G z_abs, PySem.W.mg_none_of X G z_int, PySem.W.mg_none_of X G z_max, PySem.W.mg_none_of X G z_min, PySem.W.mg_none_of X G z_set, PySem.W.mg_none_of X G z_dict, PySem.W.mg_none_of X G z_any, PySem.W.mg_none_of X G z_all, PySem.W.mg_none_of X G z_list, PySem.W.mg_none_of X G z_sum, PySem.W.mg_none_of X G z_isinstance, PySem.W.mg_none_of X G z_bool, PySem.W.mg_none_of X G z_str, PySem.W.mg_none_of X G z_zip⟩
  exact ⟨PySem.W.fnOf "law" "law" (defArgs sLaw) (defBody sLaw) (defScope sLaw) .none kV25 dc25 pm25 an25 cd25 ct25, fun s v => .of_eq rfl, fun base _ _ => ok_law (fun_mk (st := sLaw) l25 c25 k25) ⟨T0, D1, D2, D3, D4, D5, D6, D7, D8, D9, D10, D11, D12, D13, D14, D15, D16, D17, D18, D19, D20, D21, D22, D23, D24⟩⟩
theorem walk {l : PySem.W.OpenLaw} {q : Program} {loose : List Str} {XP : (Str → Option Value) → Heap → Prop} {YP : World → Heap → Prop} {d : DefRec} {K : Params → PySem.W.Frag} (hn : l.most = some 63) (hdf : d.params.defaults = [])
    (hY : ∀ (w : World) (h : Heap), YP w h → (K w.params).In h)
    (F : ∀ (w : World) (mg : Str → Option Value) (fa : Addr) (h : Heap), (K w.params).In h → h.Ns mainGlobals mg → mg d.name = some (.ref fa) →
      ∃ fd : FuncData, (∀ (s : Shared) (u : Value), BindsTo s fd ⟨[u], []⟩ [("script", u)]) ∧ ∀ base : Heap, (K w.params).In base → base.Ns mainGlobals mg → FnG l.prog w (K w.params) mg base 8 fa fd ["script"] (spP (K w.params) psLaw)) :
    PySem.W.WalkO q loose XP YP l.row.toRowW d [] (fun f vs => PySem.call f vs) :=
  walk_ofG (n := 63) (k := 8) (x := "script") (sp := fun w => spP (K w.params) psLaw) hn (by decide) hdf ⟨rfl, by decide, by decide⟩ hY F fun w H a ns hl hS =>
    ⟨fun _ => none, fun _ => False, H, [.list (ns.map .int)], .bool true, ⟨ns, hl, rfl, rfl⟩, okD (fun _ _ z => nomatch z) (Sub.refl H) (fun _ z => z.elim) (.cons (.lst hS (dpAll_ints ns)) .nil), fun v B' H' _ _ dv => by cases dv; rfl⟩
end G

open PySem PySem.W PyProof.Rows in
set_option maxRecDepth 100000 in
set_option maxHeartbeats 0 in
theorem PySem.Challenge.cw_webstoldapart_k20_whole_counted_alike_holds : PySem.Challenge.rw_webstoldapart_k20_whole_counted_alike.Holds := by
  w_on; o_law; k_head; (case hw => w_witness2)
  k_fill
  refine G.walk (l := PySem.Challenge.rw_webstoldapart_k20_whole_counted_alike) rfl rfl (fun w h Y => PySem.W.kIn_of Y) ?F
  case F =>
    intro w mg fa h KX GN hmg
    refine' _root_.G.all_mk KX GN hmg ?a1 ?l1 ?c1 ?k1 ?a2 ?l2 ?c2 ?k2 ?a3 ?l3 ?c3 ?k3 ?a4 ?l4 ?c4 ?k4 ?a5 ?l5 ?c5 ?k5 ?a6 ?l6 ?c6 ?k6 ?a7 ?l7 ?c7 ?k7 ?a8 ?l8 ?c8 ?k8 ?a9 ?l9 ?c9 ?k9 ?a10 ?l10 ?c10 ?k10 ?a11 ?l11 ?c11 ?k11 ?a12 ?l12 ?c12 ?k12 ?a13 ?l13 ?c13 ?k13 ?a14 ?l14 ?c14 ?k14 ?a15 ?l15 ?c15 ?k15 ?a16 ?l16 ?c16 ?k16 ?a17 ?l17 ?c17 ?k17 ?a18 ?l18 ?c18 ?k18 ?a19 ?l19 ?c19 ?k19 ?a20 ?l20 ?c20 ?k20 ?a21 ?l21 ?c21 ?k21 ?a22 ?l22 ?c22 ?k22 ?a23 ?l23 ?c23 ?k23 ?a24 ?l24 ?c24 ?k24 ?a25 ?l25 ?c25 ?k25 ?z_len ?z_range ?z_tuple ?z_sorted ?z_enumerate ?z_repr ?z_abs ?z_int ?z_max ?z_min ?z_set ?z_dict ?z_any ?z_all ?z_list ?z_sum ?z_isinstance ?z_bool ?z_str ?z_zip
    (case a1 => k_is)
    (case l1 => k_is)
    (case c1 => k_is)
    (case k1 => k_is)
    (case a2 => k_is)
    (case l2 => k_is)
    (case c2 => k_is)
    (case k2 => k_is)
    (case a3 => k_is)
    (case l3 => k_is)
    (case c3 => k_is)
    (case k3 => k_is)
    (case a4 => k_is)
    (case l4 => k_is)
    (case c4 => k_is)
    (case k4 => k_is)
    (case a5 => k_is)
    (case l5 => k_is)
    (case c5 => k_is)
    (case k5 => k_is)
    (case a6 => k_is)
    (case l6 => k_is)
    (case c6 => k_is)
    (case k6 => k_is)
    (case a7 => k_is)
    (case l7 => k_is)
    (case c7 => k_is)
    (case k7 => k_is)
    (case a8 => k_is)
    (case l8 => k_is)
    (case c8 => k_is)
    (case k8 => k_is)
    (case a9 => k_is)
    (case l9 => k_is)
    (case c9 => k_is)
    (case k9 => k_is)
    (case a10 => k_is)
    (case l10 => k_is)
    (case c10 => k_is)
    (case k10 => k_is)
    (case a11 => k_is)
    (case l11 => k_is)
    (case c11 => k_is)
    (case k11 => k_is)
    (case a12 => k_is)
    (case l12 => k_is)
    (case c12 => k_is)
    (case k12 => k_is)
    (case a13 => k_is)
    (case l13 => k_is)
    (case c13 => k_is)
    (case k13 => k_is)
    (case a14 => k_is)
    (case l14 => k_is)
    (case c14 => k_is)
    (case k14 => k_is)
    (case a15 => k_is)
    (case l15 => k_is)
    (case c15 => k_is)
    (case k15 => k_is)
    (case a16 => k_is)
    (case l16 => k_is)
    (case c16 => k_is)
    (case k16 => k_is)
    (case a17 => k_is)
    (case l17 => k_is)
    (case c17 => k_is)
    (case k17 => k_is)
    (case a18 => k_is)
    (case l18 => k_is)
    (case c18 => k_is)
    (case k18 => k_is)
    (case a19 => k_is)
    (case l19 => k_is)
    (case c19 => k_is)
    (case k19 => k_is)
    (case a20 => k_is)
    (case l20 => k_is)
    (case c20 => k_is)
    (case k20 => k_is)
    (case a21 => k_is)
    (case l21 => k_is)
    (case c21 => k_is)
    (case k21 => k_is)
    (case a22 => k_is)
    (case l22 => k_is)
    (case c22 => k_is)
    (case k22 => k_is)
    (case a23 => k_is)
    (case l23 => k_is)
    (case c23 => k_is)
    (case k23 => k_is)
    (case a24 => k_is)
    (case l24 => k_is)
    (case c24 => k_is)
    (case k24 => k_is)
    (case a25 => k_is)
    (case l25 => k_is)
    (case c25 => k_is)
    (case k25 => k_is)
    (case z_len => k_is)
    (case z_range => k_is)
    (case z_tuple => k_is)
    (case z_sorted => k_is)
    (case z_enumerate => k_is)
    (case z_repr => k_is)
    (case z_abs => k_is)
    (case z_int => k_is)
    (case z_max => k_is)
    (case z_min => k_is)
    (case z_set => k_is)
    (case z_dict => k_is)
    (case z_any => k_is)
    (case z_all => k_is)
    (case z_list => k_is)
    (case z_sum => k_is)
    (case z_isinstance => k_is)
    (case z_bool => k_is)
    (case z_str => k_is)
    (case z_zip => k_is)
#print axioms PySem.Challenge.cw_webstoldapart_k20_whole_counted_alike_holds
