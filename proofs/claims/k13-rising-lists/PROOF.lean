import PyProof.Rows.All
import HandS.ForMost
import HandS.IsInst
import HandS.Style
import HandS.Walk
import PyProof.ReprRoads
import KE.KDictZip
import KE.GoesEnum
import PySem.Challenge.RW_groupsteps_k13_whole_rising_lists
set_option Elab.async false
set_option linter.all false
set_option maxRecDepth 100000
set_option maxHeartbeats 8000000
/-! KbCall: what the layer lacks: repr of data where no repr is under way (guards told), defs whose promise leans on that, calls with keywords alone, the law's end with guards. -/
namespace KB
open PySem PySem.Spec PyProof.Rows L2

/-! ### repr -/
def rRepr (K : PySem.W.Frag) : List V → Hp → VK → Prop := fun xs H Q => ∃ (a : Addr) (d : PyData), xs = [.ref a] ∧ Dp K H (.ref a) d ∧ d.showable = true ∧ d.hasDict = false ∧ d.shown.length ≤ sizeLine ∧ d.depth ≤ 60 ∧ Q (.str d.shown) H
section
variable {X : Cx}
theorem call_repr (hg : X.A.guards = some []) (hu : X.A.units + 64 < cLine) : CallR X (.builtin "repr") (rRepr X.K) := by
  rintro pins s σ H xs us Q I r ⟨a, d, rfl, hd, sh, nd, sz, dp, q⟩
  rw [Vals.ref1 r]
  obtain ⟨as, rd⟩ := Dp.reads I d (.ref a) (.ref a) hd rfl
  exact repr_of_reads' rd sh (PyData.noDict_hsm nd) hg (by omega) (fun _ _ e => e) (fun h' u tk kp => ⟨.str d.shown, H, I.kept kp, ⟨u, rfl⟩, q⟩) sz
end

/-! ### promises that lean on «no repr is under way» -/
structure FnG (P : Program) (w : World) (K : PySem.W.Frag) (mg : Str → Option Value) (base : Heap) (k : Nat) (f : Addr) (fd : FuncData) (ps : List Str) (sp : Sp) : Prop where
  len : ∀ vs H Q E, sp vs H Q E → vs.length = ps.length
  go : ∀ (A : Around) (outer : List Env) (s : Shared) (H : Hp) (args : Args) (us : List Value) (vs : List V) (Q : VK) (E : XK), A.guards = some [] → Room k A → Env0 P w K mg base A outer s H → BindsTo s fd args (ps.zip us) → Vals vs us →
    sp vs H Q E → codeAny (model P w) A (.call (.ref f) args) (CR CX0 outer P w H s Q E) s

section
variable {P : Program} {w : World} {K : PySem.W.Frag} {mg : Str → Option Value} {base : Heap}
/-- such a def, by its body -/
theorem fnG_of {x qual : Str} {st : Stmt} {f : Addr} {fd : FuncData} {N ps : List Str} {k : Nat} {sp : Sp} (F : Fun K x qual st f fd) (S : FnScope N ps (defScope st)) (len : ∀ vs H Q E, sp vs H Q E → vs.length = ps.length)
    (hbody : ∀ (cdv : Value) (A : Around) (outer : List Env) (s : Shared) (H : Hp) (vs : List V) (Q : VK) (E : XK), A.guards = some [] → Room k (A.deeper (envOfC qual (defScope st) s.heap.objs.size f cdv)) → sp vs H Q E →
      ∃ t, PSs (cxOf CX0 P w K mg base N qual (defScope st) f cdv A outer s H E).nox (defBody st) t ∧ t { nx := fun _ H' => Q .non H', rt := Q } (start N vs) H) : FnG P w K mg base (k + 1) f fd ps sp := by
  obtain ⟨oc, od, kV, doc, pm, an, cdv, ct, osl, rfl, lk, hcd⟩ := F.ex
  constructor
  · exact len
  intro A outer s H args us vs Q E hg hr e0 hb r hs
  have kp : ∀ b o, base.get? b = some o → s.heap.get? b = some o := fun b o z => (e0.bs b o z).1
  have KX : K.In s.heap := e0.mod.kin.keeps kp
  refine codeAny_call_function hr.depth (KX f _ lk) rfl S.co S.gen rfl (PySem.W.codeRec_of KX hcd) (hb _ _ _ _ (wpAny_newFunctionEnv_cells S.kind (fun y hy => ?_) fun env he s1 x => ?_))
  · rcases S.par y.1 (List.of_mem_zip hy).1 with z | z
    · exact .inl z
    · exact .inr ⟨z, PySem.W.cellsFrom_some _ _ _ (.inl z)⟩
  subst he
  constructor
  · exact (e0.mod.nolimit.keeps kp).keeps x.toInCall.keep
  apply codeAny_func
  obtain ⟨t, ht, hq⟩ := hbody cdv A outer s H vs Q E hg (hr.deeper _) hs
  have I : Inv (cxOf CX0 P w K mg base N qual (defScope st) f cdv A outer s H E) [] (start N vs) H s1 := inv_start S hr.hd e0 (len vs H Q E hs) r x
  refine wpAny_mono (ht.nox.run [] s1 (start N vs) H _ I hq) (fun fl s' h => ?_) fun e s' h => h
  rcases fl with _ | _ | _ | u
  · obtain ⟨σ1, H1, J, q⟩ := h
    exact ⟨.non, H1, J.os, J.bare, J.base, J.hok, rfl, q⟩
  · exact h.elim fun _ h => h.elim fun _ h => h.2.elim
  · exact h.elim fun _ h => h.elim fun _ h => h.2.elim
  · obtain ⟨v, σ1, H1, J, rv, q⟩ := h
    exact ⟨v, H1, J.os, J.bare, J.base, J.hok, rv, q⟩
end

section
variable {X : Cx} {k : Nat} {f : Addr} {fd : FuncData} {ps ks : List Str} {sp : Sp} {x : Str} {p pos : Pos} {e : Expr} {es : List Expr} {t tk : TA} {kws : List Keyword} {gV : List V → List V → List V} {g : List Value → List Value → List Value}
/-- a call's end, as the caller sees it -/
theorem back_of {pins : List (Addr × Obj)} {σ : L2.St} {H : Hp} {s s1 : Shared} {Q : VK} {r : Result} (I : Inv X pins σ H s) (h : CR CX0 X.stack X.prog X.w H s Q E0 r s1) : ∃ u, r = .ok (.ret u) ∧ EP X pins σ Q u s1 := by
  rcases r with e | fl
  · exact h.elim
  · rcases fl with _ | _ | _ | u
    · exact h.elim
    · exact h.elim
    · exact h.elim
    · exact ⟨u, rfl, I.after h⟩
/-- f(e, ..), f such a def -/
theorem pe_callG (F : FnG X.prog X.w X.K X.mg X.base k f fd ps sp) (ng : X.A.guards = some []) (hr : Room k X.A) (hg : Gl X x) (hm : X.mg x = some (.ref f)) (hk : PySem.W.keepIn X.K (.ref f) = true) (hb : Binds X.K fd ps [])
    (ha : PA X (e :: es) t) (hdb : (x == ("__debug__" : Str)) = false := by decide) (he : starEach (e :: es) X.env = (false, eval e X.env) :: starEach es X.env := by rfl) (hpl : (backTo pos (starEach es X.env)).any (·.1) = false := by rfl) :
    PE X (.Call (.Name x p) (e :: es) [] pos) (tCall sp [] E0 t) := by
  constructor
  intro pins s σ H Q I h
  refine wpAny_Call_Name_kw (ld_glob I hg hm (PySem.W.callWith_K (h₀ := X.base) I.ok.mod.kin hk (thn (ha.run pos pins s σ H _ I h) ?_) he hpl) hdb)
  rintro us s1 ⟨vs, H1, I1, r, q⟩
  refine ⟨I1.kIn, ?_⟩
  have q' : sp (vs ++ []) H1 Q E0 := q
  rw [List.append_nil] at q'
  have hl : (us ++ []).length = ps.length := by rw [List.append_nil, ← r.length, F.len _ _ _ _ q']
  have bt := hb s1 us I1.kIn hl
  rw [List.append_nil] at bt
  refine wpAny_call (codeAny_mono (F.go X.A X.stack s1 H1 ⟨us, []⟩ us vs Q E0 ng hr I1.env0 bt r q') fun z s2 hz => ?_)
  obtain ⟨u, rfl, ep⟩ := back_of I1 hz
  exact ep

/-! ### f(k = v, ..), no positional argument -/
theorem pe_callK0 (F : FnOk X.prog X.w X.K X.mg X.base CX0 k f fd ps sp) (hr : Room k X.A) (hg : Gl X x) (hm : X.mg x = some (.ref f)) (hk : PySem.W.keepIn X.K (.ref f) = true) (hb : KBinds X.K fd ps ks g gV)
    (hkw : PK X kws tk) (hall : (backToKw pos (keywordEach kws X.env)).all (·.1.isSome) = true := by rfl) (hks : (backToKw pos (keywordEach kws X.env)).filterMap (·.1) = ks := by rfl)
    (hdb : (x == ("__debug__" : Str)) = false := by decide) (hpl : ((backTo pos (starEach [] X.env)).any (·.1) || (backToKw pos (keywordEach kws X.env)).any (·.1.isNone)) = false := by rfl) :
    PE X (.Call (.Name x p) [] kws pos) (tCallK sp gV E0 tNil tk) := by
  constructor
  intro pins s σ H Q I h
  refine wpAny_Call_Name_kw (ld_glob I hg hm (PySem.W.callWith_KW0 (h₀ := X.base) I.ok.mod.kin hk hall (thn (hkw.run pos pins s σ H _ I h) ?_) hpl) hdb)
  rintro ws s2 ⟨zs, H2, I2, rz, q⟩
  refine ⟨I2.kIn, ?_⟩
  rw [hks]
  exact run_fnk (us := []) (vs := []) F hr hb pass0 I2 .nil rz q
end

/-! ### the law's end -/
section
open PySem.W
/-- the law's call at the heap behind the top, by a promise that leans on the guards -/
theorem law_callG {P : Program} {w : World} {K : PySem.W.Frag} {mg mb : Str → Option Value} {k : Nat} {fa a : Addr} {fd : FuncData} {x : Str} {sp : Sp} {s1 : Shared} {vs : List Value} {ns : List Int}
    (KX : K.In s1.heap) (hns : s1.heap.Ns mainGlobals mg) (hb : s1.heap.Ns builtinsNs mb) (hbb : ∀ x : Str, x ≠ "__name__" → mb x = bootBuiltins x) (hlim : s1.heap.NoLimit) (hg : s1.gens = #[])
    (ha : s1.heap.get? a = some { cls := .type "list", data := .seq vs.toArray }) (hi : IntsAre vs ns) (hl : ns.length ≤ sizeLine) (hr : Room k callerA)
    (F : ∀ base : Heap, K.In base → base.Ns mainGlobals mg → FnG P w K mg base k fa fd [x] sp) (hbind : ∀ (s : Shared) (u : Value), BindsTo s fd ⟨[u], []⟩ [(x, u)])
    (hsp : ∀ H : Hp, SqL K H a (ns.map V.int) → sp [.ref a] H (fun v _ => v = .bl true) fun _ _ _ => False) :
    codeAny (model P w) callerA (.call (.ref fa) ⟨[.ref a], []⟩) (fun r s' => r = .ok (.ret (.bool true)) ∧ OldK s1.heap s'.heap ∧ s'.os = s1.os ∧ AllBare s'.gens) s1 := by
  have rv := vals_ints hi
  have lv := hi.length
  -- one heap H: nothing, or the script alone, locked
  suffices main : ∀ H : Hp, SqL K H a (ns.map V.int) → HOk P w H s1.heap → (∀ b u, H b = some u → b = a ∧ K.lookup a = none ∧ ∃ ob z, u = .frz ob z) →
      codeAny (model P w) callerA (.call (.ref fa) ⟨[.ref a], []⟩) (fun r s' => r = .ok (.ret (.bool true)) ∧ OldK s1.heap s'.heap ∧ s'.os = s1.os ∧ AllBare s'.gens) s1 by
    cases hk : K.lookup a with
    | some o =>
      have e := KX a o hk
      rw [ha] at e
      obtain rfl := Option.some.inj e
      refine main (fun _ => none) (.inr ⟨_, vs.toArray, _, hk, rfl, rfl, rfl, ?_, ?_⟩) (fun b u z => nomatch z) fun b u z => nomatch z
      · rw [List.size_toArray, lv]; exact hl
      · exact rv
    | none =>
      refine main (upd (fun _ => none) a (.frz { cls := .type "list", data := .seq vs.toArray } (.lst (ns.map V.int)))) (.inl (.inr ⟨_, upd_same⟩)) (fun b u z => ?_) fun b u z => ?_
      · by_cases c : b = a
        · subst c
          rw [upd_same] at z
          obtain rfl := Option.some.inj z
          exact ⟨ha, by rw [List.length_map]; exact hl, vs, _, rv, ha⟩
        · rw [upd_ne c] at z
          exact nomatch z
      · by_cases c : b = a
        · subst c
          rw [upd_same] at z
          exact ⟨rfl, hk, _, _, (Option.some.inj z).symm⟩
        · rw [upd_ne c] at z
          exact nomatch z
  intro H hS hok hA
  have free : ∀ b o, s1.heap.get? b = some o → (∀ q n, o.data = .seq q n → b ≠ a) → H b = none := fun b o e hd => by
    cases q : H b with
    | none => rfl
    | some u =>
      obtain ⟨rfl, _⟩ := hA b u q
      rw [ha] at e
      obtain rfl := Option.some.inj e
      exact absurd rfl (hd _ _ rfl)
  have up : ∀ b o, s1.heap.get? b = some o → H b = none → (hidT s1.heap H).get? b = some o := fun b o e n => hidT_get e n
  have ns2 : ∀ (b : Addr) (m : Str → Option Value), s1.heap.Ns b m → (hidT s1.heap H).Ns b m := by
    rintro b m ⟨o, es, ep, e, d, r⟩
    exact ⟨o, es, ep, up b o e (free b o e fun q n z => by rw [d] at z; cases z), d, r⟩
  have hKb : K.In (hidT s1.heap H) := fun b o e => up b o (KX b o e) (by
    cases q : H b with
    | none => rfl
    | some u =>
      obtain ⟨rfl, z, _⟩ := hA b u q
      rw [z] at e
      cases e)
  obtain ⟨mc, l1, l2⟩ := hlim
  have hM : Mod K mg (hidT s1.heap H) := ⟨hKb, ns2 _ _ hns, ⟨mb, ns2 _ _ hb, hbb⟩, ⟨mc, ns2 _ _ l1, l2⟩⟩
  have e0 : Env0 P w K mg (hidT s1.heap H) callerA [] s1 H := ⟨rfl, hM, fun b o e => of_hidT e, Nat.le_of_eq (hidT_size _ _), trivial, fun b z => (List.not_mem_nil (show b ∈ ([] : List Addr) from z)).elim, hok, .of_eq hg⟩
  refine codeAny_mono ((F _ hKb (ns2 _ _ hns)).go callerA [] s1 H ⟨[.ref a], []⟩ [.ref a] [.ref a] _ _ rfl hr e0 (hbind s1 (.ref a)) (.cons rfl .nil) (hsp H hS)) fun r s' h => ?_
  rcases r with e | fl
  · exact h.elim
  rcases fl with _ | _ | _ | u
  · exact h.elim
  · exact h.elim
  · exact h.elim
  obtain ⟨v, H', os, bare, un, hok', r', q⟩ := h
  have q' : v = .bl true := q
  subst q'
  have eu : u = Value.bool true := r'
  subst eu
  refine ⟨rfl, OldK.of_keep fun b o e => ?_, os, bare⟩
  cases q : H b with
  | none => exact un.keep b o e q (fun z => List.not_mem_nil (show b ∈ ([] : List Addr) from z)) (fun z => List.not_mem_nil z)
  | some u =>
    obtain ⟨_, _, ob, z, rfl⟩ := hA b u q
    have h1 := (hok b _ q).1
    have h2 := (hok' b _ (un.frzs b ob z q)).1
    rw [e] at h1
    obtain rfl := Option.some.inj h1
    exact h2
theorem walk_ofG {l : PySem.W.OpenLaw} {n k : Nat} {q : Program} {loose : List Str} {XP : (Str → Option Value) → Heap → Prop} {YP : World → Heap → Prop} {d : DefRec} {K : Params → PySem.W.Frag} {sp : PySem.W.Frag → Sp} {x : Str}
    (hn : l.most = some n) (hn2 : n ≤ sizeLine) (hdf : d.params.defaults = []) (hr : Room k callerA)
    (hY : ∀ (w : World) (h : Heap), YP w h → (K w.params).In h)
    (F : ∀ (w : World) (mg : Str → Option Value) (fa : Addr) (h : Heap), (K w.params).In h → h.Ns mainGlobals mg → mg d.name = some (.ref fa) →
      ∃ fd : FuncData, (∀ (s : Shared) (u : Value), BindsTo s fd ⟨[u], []⟩ [(x, u)]) ∧
        ∀ base : Heap, (K w.params).In base → base.Ns mainGlobals mg → FnG l.prog w (K w.params) mg base k fa fd [x] (sp (K w.params)))
    (hsp : ∀ (K : PySem.W.Frag) (H : Hp) (a : Addr) (ns : List Int), ns.length ≤ n → SqL K H a (ns.map V.int) → sp K [.ref a] H (fun v _ => v = .bl true) fun _ _ _ => False) :
    PySem.W.WalkO q loose XP YP l.row.toRowW d [] (fun f vs => PySem.call f vs) := by
  refine Att.attach_call hn hdf fun w s0 s1 mg mb fa o pm cd doc a vs ns G Y ho hd hcd hmg hobj hints hlen hg => ?_
  obtain ⟨fd, hb, hF⟩ := F w mg fa _ (hY w _ Y) G.T.g hmg
  exact law_callG (hY w _ Y) G.T.g G.T.b G.T.builtins G.T.nolimit hg hobj hints (Nat.le_trans hlen hn2) hr hF hb fun H hS => hsp (K w.params) H a ns hlen hS
end
end KB
/-! KbEnum: for p, (a, b) in enumerate(zip(xs, ys), 1): what is walked. The zip's first tuple stays out (enumerate's own pair holds it), so from the second turn on the zip makes a new one each time. -/
namespace KB
open PySem PySem.Spec PyProof.Rows L2

/-- a zip's record, whatever it says of the tuple that it gave out -/
abbrev ZipAt (h : Heap) (z TI TO : Addr) (f0 : Value) (f1 : Bool) : Prop :=
  h.get? z = some { cls := .type "zip", dict := none, data := .fields #[f0, .bool f1, .bool false, .ref TI, .ref TO], slots := #[] }
section
variable {prog : Program} {w : World} {A : Around} {E : Value → Shared → Prop} {s : Shared}
/-- one next of a zip whose own tuple is free -/
theorem zn_free {z TI TO i1 i2 l1 l2 : Addr} {f0 : Value} {f1 : Bool} {k1 k2 : Nat} {xs ys : Array Value} {x y a b : Value} {Q : Value → Shared → Prop} (D : ZipApart z TI TO i1 i2 l1 l2)
    (hz : ZipAt s.heap z TI TO f0 f1) (free : ∀ R : Bool → Shared → Prop, R true s → wpAny (model prog w) A (Builtin.SmallTypes.ownedTupleIsFree (.ref z)) R E s)
    (hTI : IsPair s.heap TI (.ref i1) (.ref i2)) (hTO : IsPair s.heap TO a b) (h1 : s.heap.IsListIter i1 l1 k1) (h2 : s.heap.IsListIter i2 l2 k2) (hl1 : s.heap.IsList l1 xs) (hl2 : s.heap.IsList l2 ys)
    (hx : xs[k1]? = some x) (hy : ys[k2]? = some y)
    (hQ : ∀ h', ZipAt h' z TI TO (rawInt s.heap.objs.size) false → IsPair h' TO x y → h'.IsListIter i1 l1 (k1 + 1) → h'.IsListIter i2 l2 (k2 + 1) → IsPair h' s.heap.objs.size x y → h'.objs.size = s.heap.objs.size + 1 →
      (∀ c o, c ≠ z → c ≠ TO → c ≠ i1 → c ≠ i2 → s.heap.get? c = some o → h'.get? c = some o) → Q (.ref s.heap.objs.size) { s with heap := h' }) :
    wpAny (model prog w) A (Builtin.«zip.__next__» ⟨[.ref z], []⟩) (fun fin s' => ∃ v, fin = .done (.ret v) ∧ Q v s') E s := by
  show wpAny _ _ (field (.ref z) 2 >>= _) _ _ _
  apply wpAny_bind
  apply wpAny_field hz rfl (x := .bool false) rfl
  show wpAny _ _ (field (.ref z) 3 >>= _) _ _ _
  apply wpAny_bind
  apply wpAny_field hz rfl (x := .ref TI) rfl
  apply wpAny_bind
  apply wpAny_seqItems hTI rfl
  show wpAny _ _ (Builtin.SmallTypes.ownedTupleIsFree (.ref z) >>= _) _ _ _
  apply wpAny_bind
  apply free
  simp only [if_true]
  apply wpAny_bind
  apply wpAny_rule
  apply wpAny_bind
  apply wpAny_field hz rfl (x := .ref TO) rfl
  apply wpAny_bind
  refine wpAny_setField_rec hz (by simp) fun ha za sa => ?_
  have za' : ZipAt ha z TI TO .ellipsis f1 := za
  simp only [List.zipIdx_cons, List.zipIdx_nil, List.forIn_cons, List.forIn_nil]
  refine wpAny_bind (wpAny_bind (wpAny_bind (wpAny_onRaise ?_)))
  show wpAny _ _ (Builtin.SmallTypes.nextOf (.ref i1) >>= _) _ _ _
  refine wpAny_bind (wpAny_nextOf_list_item (s := { s with heap := ha }) (h1.extBut sa.extBut D.i1z) (hl1.extBut sa.extBut D.l1z) hx fun hb n1 sb => wpAny_pure ?_)
  have tb : IsPair hb TO a b := sb.extBut _ _ D.TOi1 (sa.extBut _ _ D.TOz hTO)
  apply wpAny_bind
  apply wpAny_seqItems (s := { s with heap := hb }) tb rfl
  refine wpAny_bind (wpAny_updateSeq_pair (s := { s with heap := hb }) tb fun hc tc sc => ?_)
  have tc' : IsPair hc TO x b := tc
  refine wpAny_bind (wpAny_letGo (wpAny_pure ?_))
  refine wpAny_bind (wpAny_bind (wpAny_onRaise ?_))
  show wpAny _ _ (Builtin.SmallTypes.nextOf (.ref i2) >>= _) _ _ _
  have m2 : hc.IsListIter i2 l2 k2 := ((h2.extBut sa.extBut D.i2z).extBut sb.extBut D.i12.symm).extBut sc.extBut D.TOi2.symm
  have ml : hc.IsList l2 ys := ((hl2.extBut sa.extBut D.l2z).extBut sb.extBut D.l2i1).extBut sc.extBut D.l2TO
  refine wpAny_bind (wpAny_nextOf_list_item (s := { s with heap := hc }) m2 ml hy fun hd n2 sd => wpAny_pure ?_)
  have td : IsPair hd TO x b := sd.extBut _ _ D.TOi2 tc'
  apply wpAny_bind
  apply wpAny_seqItems (s := { s with heap := hd }) td rfl
  refine wpAny_bind (wpAny_updateSeq_pair (s := { s with heap := hd }) td fun he te se => ?_)
  have te' : IsPair he TO x y := te
  refine wpAny_bind (wpAny_letGo (wpAny_pure (wpAny_pure ?_)))
  apply wpAny_bind
  apply wpAny_seqItems (s := { s with heap := he }) te' rfl
  refine wpAny_bind (wpAny_newTuple ?_)
  have size_e : he.objs.size = s.heap.objs.size := by rw [se.1, sd.1, sc.1, sb.1, sa.1]
  have ze : ZipAt he z TI TO .ellipsis f1 := se.extBut _ _ D.TOz.symm (sd.extBut _ _ D.i2z.symm (sc.extBut _ _ D.TOz.symm (sb.extBut _ _ D.i1z.symm za')))
  have kept : ∀ c o, c ≠ z → c ≠ TO → c ≠ i1 → c ≠ i2 → s.heap.get? c = some o → he.get? c = some o := fun c o c1 c2 c3 c4 e => se.extBut _ _ c2 (sd.extBut _ _ c4 (sc.extBut _ _ c2 (sb.extBut _ _ c3 (sa.extBut _ _ c1 e))))
  have e1 : he.IsListIter i1 l1 (k1 + 1) := ((n1.extBut sc.extBut D.TOi1.symm).extBut sd.extBut D.i12).extBut se.extBut D.TOi1.symm
  have e2 : he.IsListIter i2 l2 (k2 + 1) := n2.extBut se.extBut D.TOi2.symm
  have zlt : z < he.objs.size := Heap.lt_size ze
  show wpAny _ _ (Builtin.SmallTypes.ownedTupleHandOut (.ref z) (.ref he.objs.size) >>= _) _ _ _
  apply wpAny_bind
  unfold Builtin.SmallTypes.ownedTupleHandOut
  have zf : ZipAt (he.push { cls := .type "tuple", data := .seq #[x, y] }) z TI TO .ellipsis f1 := Heap.get?_push_of_some _ ze
  refine wpAny_bind (wpAny_setField_rec zf (by simp) fun hg zg sg => ?_)
  have zg' : ZipAt hg z TI TO (rawInt he.objs.size) f1 := zg
  refine wpAny_setField_rec (s := { s with heap := hg }) zg' (by simp) fun hh zh sh => ?_
  have zh' : ZipAt hh z TI TO (rawInt he.objs.size) false := zh
  have up : ∀ c o, c ≠ z → he.get? c = some o → hh.get? c = some o := fun c o c1 e => sh.extBut _ _ c1 (sg.extBut _ _ c1 (Heap.get?_push_of_some _ e))
  have tn : IsPair hh he.objs.size x y := sh.extBut _ _ (Nat.ne_of_gt zlt) (sg.extBut _ _ (Nat.ne_of_gt zlt) (Heap.get?_push_size _ rfl))
  have size_h : hh.objs.size = he.objs.size + 1 := by rw [sh.1, sg.1, Heap.size_push]
  rw [size_e] at zh' tn size_h
  refine wpAny_pure ⟨_, rfl, ?_⟩
  show Q (.ref he.objs.size) _
  rw [size_e]
  exact hQ hh zh' (up _ _ D.TOz te') (e1.at fun o e => up _ o D.i1z e) (e2.at fun o e => up _ o D.i2z e) tn size_h fun c o c1 c2 c3 c4 e => up c o c1 (kept c o c1 c2 c3 c4 e)
/-- its end -/
theorem zn_free_end {z TI TO i1 i2 l1 l2 : Addr} {f0 : Value} {f1 : Bool} {k1 k2 : Nat} {xs ys : Array Value} {a b : Value} {Q : Fin → Shared → Prop} (quiet : A.handled = none) (D : ZipApart z TI TO i1 i2 l1 l2)
    (hz : ZipAt s.heap z TI TO f0 f1) (free : ∀ R : Bool → Shared → Prop, R true s → wpAny (model prog w) A (Builtin.SmallTypes.ownedTupleIsFree (.ref z)) R E s)
    (hTI : IsPair s.heap TI (.ref i1) (.ref i2)) (hTO : IsPair s.heap TO a b) (h1 : s.heap.IsListIter i1 l1 k1) (h2 : s.heap.IsListIter i2 l2 k2) (hl1 : s.heap.IsList l1 xs) (hl2 : s.heap.IsList l2 ys)
    (hend : xs[k1]? = none ∨ ys[k2]? = none)
    (hE : ∀ h' e, (∀ c o, c ≠ z → c ≠ TO → c ≠ i1 → c ≠ i2 → s.heap.get? c = some o → h'.get? c = some o) → (∃ o, h'.get? e = some o ∧ o.cls = .type "StopIteration") → E (.ref e) { s with heap := h' }) :
    wpAny (model prog w) A (Builtin.«zip.__next__» ⟨[.ref z], []⟩) Q E s := by
  show wpAny _ _ (field (.ref z) 2 >>= _) _ _ _
  apply wpAny_bind
  apply wpAny_field hz rfl (x := .bool false) rfl
  show wpAny _ _ (field (.ref z) 3 >>= _) _ _ _
  apply wpAny_bind
  apply wpAny_field hz rfl (x := .ref TI) rfl
  apply wpAny_bind
  apply wpAny_seqItems hTI rfl
  show wpAny _ _ (Builtin.SmallTypes.ownedTupleIsFree (.ref z) >>= _) _ _ _
  apply wpAny_bind
  apply free
  simp only [if_true]
  apply wpAny_bind
  apply wpAny_rule
  apply wpAny_bind
  apply wpAny_field hz rfl (x := .ref TO) rfl
  apply wpAny_bind
  refine wpAny_setField_rec hz (by simp) fun ha za sa => ?_
  have za' : ZipAt ha z TI TO .ellipsis f1 := za
  simp only [List.zipIdx_cons, List.zipIdx_nil, List.forIn_cons, List.forIn_nil]
  refine wpAny_bind (wpAny_bind (wpAny_bind (wpAny_onRaise ?_)))
  show wpAny _ _ (Builtin.SmallTypes.nextOf (.ref i1) >>= _) _ _ _
  cases hx : xs[k1]? with
  | none =>
    refine wpAny_bind (wpAny_nextOf_list_end (s := { s with heap := ha }) quiet (h1.extBut sa.extBut D.i1z) (hl1.extBut sa.extBut D.l1z) hx fun hb e sb ⟨oe, he, ce⟩ => ?_)
    have zb : ZipAt hb z TI TO .ellipsis f1 := sb _ _ D.i1z.symm za'
    have ez : e ≠ z := fun q => by
      subst q
      rw [zb] at he
      cases he
      simp at ce
    exact wpAny_setField_rec (s := { s with heap := hb }) zb (by simp) fun hc _ sc => hE hc e (fun c o c1 _ c3 _ q => sc.extBut _ _ c1 (sb _ _ c3 (sa.extBut _ _ c1 q))) ⟨oe, sc.extBut _ _ ez he, ce⟩
  | some x =>
    have hy : ys[k2]? = none := hend.resolve_left (by rw [hx]; exact fun q => nomatch q)
    refine wpAny_bind (wpAny_nextOf_list_item (s := { s with heap := ha }) (h1.extBut sa.extBut D.i1z) (hl1.extBut sa.extBut D.l1z) hx fun hb n1 sb => wpAny_pure ?_)
    have tb : IsPair hb TO a b := sb.extBut _ _ D.TOi1 (sa.extBut _ _ D.TOz hTO)
    apply wpAny_bind
    apply wpAny_seqItems (s := { s with heap := hb }) tb rfl
    refine wpAny_bind (wpAny_updateSeq_pair (s := { s with heap := hb }) tb fun hc tc sc => ?_)
    refine wpAny_bind (wpAny_letGo (wpAny_pure ?_))
    refine wpAny_bind (wpAny_bind (wpAny_onRaise ?_))
    show wpAny _ _ (Builtin.SmallTypes.nextOf (.ref i2) >>= _) _ _ _
    have m2 : hc.IsListIter i2 l2 k2 := ((h2.extBut sa.extBut D.i2z).extBut sb.extBut D.i12.symm).extBut sc.extBut D.TOi2.symm
    have ml : hc.IsList l2 ys := ((hl2.extBut sa.extBut D.l2z).extBut sb.extBut D.l2i1).extBut sc.extBut D.l2TO
    refine wpAny_bind (wpAny_nextOf_list_end (s := { s with heap := hc }) quiet m2 ml hy fun hd e sd ⟨oe, he, ce⟩ => ?_)
    have zd : ZipAt hd z TI TO .ellipsis f1 := sd _ _ D.i2z.symm (sc.extBut _ _ D.TOz.symm (sb.extBut _ _ D.i1z.symm za'))
    have ez : e ≠ z := fun q => by
      subst q
      rw [zd] at he
      cases he
      simp at ce
    exact wpAny_setField_rec (s := { s with heap := hd }) zd (by simp) fun hg _ sg => hE hg e (fun c o c1 c2 c3 c4 q => sg.extBut _ _ c1 (sd _ _ c4 (sc.extBut _ _ c2 (sb.extBut _ _ c3 (sa.extBut _ _ c1 q))))) ⟨oe, sg.extBut _ _ ez he, ce⟩
/-- the tuple is free: none is out, or the one that was is gone -/
theorem free_none {z TI TO : Addr} {f1 : Bool} (hz : ZipAt s.heap z TI TO .none f1) (R : Bool → Shared → Prop) (h : R true s) : wpAny (model prog w) A (Builtin.SmallTypes.ownedTupleIsFree (.ref z)) R E s := by
  unfold Builtin.SmallTypes.ownedTupleIsFree
  apply wpAny_bind
  apply wpAny_field hz rfl (x := .none) rfl
  exact wpAny_pure h
theorem free_gone {z TI TO T : Addr} {f1 : Bool} (hz : ZipAt s.heap z TI TO (rawInt T) f1) (hT : s.heap.get? T = none) (R : Bool → Shared → Prop) (h : R true s) : wpAny (model prog w) A (Builtin.SmallTypes.ownedTupleIsFree (.ref z)) R E s := by
  unfold Builtin.SmallTypes.ownedTupleIsFree
  apply wpAny_bind
  apply wpAny_field hz rfl (x := rawInt T) rfl
  show wpAny _ _ (loadIfAlive ((T : Int).toNat) >>= _) _ _ _
  rw [Int.toNat_natCast]
  apply wpAny_bind
  have key : ∀ G : Option Obj → Shared → Prop, G none s → wpAny (model prog w) A (loadIfAlive T) G E s := fun G g => by
    have g' : G (s.heap.get? T) s := by rw [hT]; exact g
    exact fun _ _ _ => g'
  apply key
  simp only [Option.isNone_none, if_true]
  exact wpAny_pure h
/-- the zip's state between two turns: none is out (then it is the first), or T is out -/
def ZipSt (h : Heap) (z TI TO : Addr) : Prop := ZipAt h z TI TO .none false ∨ ∃ (T : Addr) (f : Bool), ZipAt h z TI TO (rawInt T) f
/-- one draw of the zip within another iterator's next -/
theorem zip_draw {z TI TO i1 i2 l1 l2 : Addr} {k : Nat} {xs ys : Array Value} {x y : Value} {Q : Value → Shared → Prop} (D : ZipApart z TI TO i1 i2 l1 l2)
    (hz : ZipSt s.heap z TI TO) (hTI : IsPair s.heap TI (.ref i1) (.ref i2)) (hTO : ∃ a b, IsPair s.heap TO a b) (h1 : s.heap.IsListIter i1 l1 k) (h2 : s.heap.IsListIter i2 l2 k) (hl1 : s.heap.IsList l1 xs) (hl2 : s.heap.IsList l2 ys)
    (hx : xs[k]? = some x) (hy : ys[k]? = some y)
    (hQ : ∀ h', ZipSt h' z TI TO → (∃ a b, IsPair h' TO a b) → h'.IsListIter i1 l1 (k + 1) → h'.IsListIter i2 l2 (k + 1) → IsPair h' s.heap.objs.size x y → h'.objs.size = s.heap.objs.size + 1 →
      (∀ c o, c ≠ z → c ≠ TO → c ≠ i1 → c ≠ i2 → s.heap.get? c = some o → h'.get? c = some o) → Q (.ref s.heap.objs.size) { s with heap := h' }) :
    wpAny (model prog w) A (Builtin.SmallTypes.nextOf (.ref z)) Q E s := by
  obtain ⟨a, b, tO⟩ := hTO
  have ty : s.TypeIs (.ref z) "zip" := by
    rcases hz with q | ⟨T, f, q⟩
    · exact ⟨_, q, rfl⟩
    · exact ⟨_, q, rfl⟩
  unfold Builtin.SmallTypes.nextOf
  refine wpAny_bind (wpAny_callSpecial?_slot (name := Str.ofString "__next__") ty F.slot_zip_next (wpAny_call_entry F.slot_zip_next ty F.entry_zip_next ?_ (F.args_zip_next_1 _)))
  have done : ∀ (f0 : Value) (f1 : Bool), ZipAt s.heap z TI TO f0 f1 → (∀ (A' : Around) (E' : Value → Shared → Prop) (R : Bool → Shared → Prop), R true s → wpAny (model prog w) A' (Builtin.SmallTypes.ownedTupleIsFree (.ref z)) R E' s) →
      ∀ (A' : Around) (E' : Value → Shared → Prop), wpAny (model prog w) A' (Builtin.«zip.__next__» ⟨[.ref z], []⟩) (fun fin s' => ∃ v, fin = .done (.ret v) ∧ wpAny (model prog w) A (pure v) Q E s') E' s := fun f0 f1 q fr A' E' =>
    zn_free D q (fr A' E') hTI tO h1 h2 hl1 hl2 hx hy fun h' c1 c2 c3 c4 c5 c6 c7 => wpAny_pure (hQ h' (.inr ⟨_, _, c1⟩) ⟨_, _, c2⟩ c3 c4 c5 c6 c7)
  rcases hz with q | ⟨T, f, q⟩
  · exact done _ _ q (fun A' E' R h => free_none q R h) _ _
  · cases e : s.heap.get? T with
    | none => exact done _ _ q (fun A' E' R h => free_gone q e R h) _ _
    | some oT =>
      exact zip_next_item_held D q e hTI h1 h2 hl1 hl2 hx hy fun h' c1 c3 c4 c5 c6 c7 => wpAny_pure (hQ h' (.inr ⟨_, _, c1⟩) ⟨a, b, c7 _ _ D.TOz D.TOi1 D.TOi2 tO⟩ c3 c4 c5 c6 fun c o d1 d2 d3 d4 => c7 c o d1 d3 d4)
theorem zip_draw_end {z TI TO i1 i2 l1 l2 : Addr} {k : Nat} {xs ys : Array Value} {Q : Value → Shared → Prop} (quiet : A.handled = none) (D : ZipApart z TI TO i1 i2 l1 l2)
    (hz : ZipSt s.heap z TI TO) (hTI : IsPair s.heap TI (.ref i1) (.ref i2)) (hTO : ∃ a b, IsPair s.heap TO a b) (h1 : s.heap.IsListIter i1 l1 k) (h2 : s.heap.IsListIter i2 l2 k) (hl1 : s.heap.IsList l1 xs) (hl2 : s.heap.IsList l2 ys)
    (hend : xs[k]? = none ∨ ys[k]? = none)
    (hE : ∀ h' e, (∀ c o, c ≠ z → c ≠ TO → c ≠ i1 → c ≠ i2 → s.heap.get? c = some o → h'.get? c = some o) → (∃ o, h'.get? e = some o ∧ o.cls = .type "StopIteration") → E (.ref e) { s with heap := h' }) :
    wpAny (model prog w) A (Builtin.SmallTypes.nextOf (.ref z)) Q E s := by
  obtain ⟨a, b, tO⟩ := hTO
  have ty : s.TypeIs (.ref z) "zip" := by
    rcases hz with q | ⟨T, f, q⟩
    · exact ⟨_, q, rfl⟩
    · exact ⟨_, q, rfl⟩
  unfold Builtin.SmallTypes.nextOf
  refine wpAny_bind (wpAny_callSpecial?_slot (name := Str.ofString "__next__") ty F.slot_zip_next (wpAny_call_entry F.slot_zip_next ty F.entry_zip_next ?_ (F.args_zip_next_1 _)))
  rcases hz with q | ⟨T, f, q⟩
  · exact zn_free_end quiet D q (free_none q) hTI tO h1 h2 hl1 hl2 hend hE
  · cases e : s.heap.get? T with
    | none => exact zn_free_end quiet D q (free_gone q e) hTI tO h1 h2 hl1 hl2 hend hE
    | some oT => exact zip_next_end_held quiet D q e hTI h1 h2 hl1 hl2 hend fun h' e c7 => hE h' e fun c o d1 d2 d3 d4 => c7 c o d1 d3 d4
end
end KB
/-! KbEnum2: enumerate over a zip: its making, its next, the walk. -/
namespace KB
open PySem PySem.Spec PyProof.Rows L2
section
variable {prog : Program} {w : World} {A : Around} {E : Value → Shared → Prop} {s : Shared}
/-- enumerate's next, whatever its source draws: x, at h1 -/
theorem en_next {e it : Addr} {c : Int} {old : Value} {Dr : Value → Heap → Prop} {Q : Option Value → Shared → Prop} (he : IsEnum s.heap e it c old)
    (draw : ∀ (A' : Around) (E' : Value → Shared → Prop) (R : Value → Shared → Prop), A'.handled = A.handled → (∀ x h1, Dr x h1 → IsEnum h1 e it c old → R x { s with heap := h1 }) →
      wpAny (model prog w) A' (Builtin.SmallTypes.nextOf (.ref it)) R E' s)
    (hQ : ∀ x h1 h2 tk, Dr x h1 → IsEnumOut h2 e it (c + 1) x h1.objs.size → h2.get? h1.objs.size = some { cls := .type "tuple", data := .seq #[.int c tk, x] } → (∀ b o, b ≠ e → h1.get? b = some o → h2.get? b = some o) →
      Q (some (.ref h1.objs.size)) { s with heap := h2, toks := tk + 1 }) : wpAny (model prog w) A (pyNext (.ref e)) Q E s := by
  have ty : s.TypeIs (.ref e) "enumerate" := ⟨_, he, rfl⟩
  unfold pyNext
  refine wpAny_bind (wpAny_attempt (wpAny_callSpecial?_slot (name := Str.ofString "__next__") ty F.slot_enumerate_next (wpAny_call_entry F.slot_enumerate_next ty F.entry_enumerate_next ?_ (F.args_enumerate_next_1 _))))
  obtain ⟨hp, g, d, tk0, os⟩ := s
  show wpAny _ _ (field (.ref e) 2 >>= _) _ _ _
  apply wpAny_bind
  apply wpAny_field he rfl (x := .ref it) rfl
  apply wpAny_bind
  refine draw _ _ _ rfl fun x h1 dr n1 => ?_
  show wpAny _ _ (field (.ref e) 3 >>= _) _ _ ⟨h1, g, d, tk0, os⟩
  apply wpAny_bind
  apply wpAny_field (s := ⟨h1, g, d, tk0, os⟩) n1 rfl (x := rawInt c) rfl
  show wpAny _ _ (field (.ref e) 4 >>= _) _ _ ⟨h1, g, d, tk0, os⟩
  apply wpAny_bind
  apply wpAny_field (s := ⟨h1, g, d, tk0, os⟩) n1 rfl (x := .none) rfl
  show wpAny _ _ (mkInt c >>= _) _ _ ⟨h1, g, d, tk0, os⟩
  refine wpAny_bind (wpAny_mkInt ?_)
  show wpAny _ _ (setField (.ref e) 3 (rawInt (c + 1)) >>= _) _ _ ⟨h1, g, d, tk0 + 1, os⟩
  refine wpAny_bind (wpAny_setField_rec (s := ⟨h1, g, d, tk0 + 1, os⟩) n1 (by simp) fun h2 n2 s2 => ?_)
  have n2' : IsEnum h2 e it (c + 1) old := n2
  have s2' : Heap.SameBut e h1 h2 := s2
  show wpAny _ _ (setField (.ref e) 4 .none >>= _) _ _ ⟨h2, g, d, tk0 + 1, os⟩
  refine wpAny_bind (wpAny_setField_rec (s := ⟨h2, g, d, tk0 + 1, os⟩) n2' (by simp) fun h3 n3 s3 => ?_)
  have n3' : IsEnum h3 e it (c + 1) old := n3
  have s3' : Heap.SameBut e h2 h3 := s3
  show wpAny _ _ (newTuple [.int c tk0, x] >>= _) _ _ ⟨h3, g, d, tk0 + 1, os⟩
  refine wpAny_bind (wpAny_newTuple ?_)
  have size3 : h3.objs.size = h1.objs.size := by rw [s3'.1, s2'.1]
  have elt : e < h1.objs.size := Heap.lt_size n1
  have n4 : IsEnum (h3.push { cls := .type "tuple", data := .seq #[.int c tk0, x] }) e it (c + 1) old := Heap.get?_push_of_some _ n3'
  have t4 : (h3.push { cls := .type "tuple", data := .seq #[.int c tk0, x] }).get? h1.objs.size = some { cls := .type "tuple", data := .seq #[.int c tk0, x] } := by
    rw [← size3]
    exact Heap.get?_push_size _ rfl
  have k4 : ∀ b o, b ≠ e → h1.get? b = some o → (h3.push { cls := .type "tuple", data := .seq #[.int c tk0, x] }).get? b = some o := fun b o q z => Heap.get?_push_of_some _ (s3'.extBut b o q (s2'.extBut b o q z))
  generalize eh : h3.push { cls := .type "tuple", data := .seq #[.int c tk0, x] } = h4 at n4 t4 k4
  show wpAny _ _ (Builtin.SmallTypes.ownedTupleIsFree (.ref e) >>= _) _ _ ⟨h4, g, d, tk0 + 1, os⟩
  rw [size3]
  apply wpAny_bind
  unfold Builtin.SmallTypes.ownedTupleIsFree
  apply wpAny_bind
  apply wpAny_field (s := ⟨h4, g, d, tk0 + 1, os⟩) n4 rfl (x := .none) rfl
  apply wpAny_pure
  simp only [if_true]
  apply wpAny_bind
  apply wpAny_rule
  apply wpAny_bind
  apply wpAny_field (s := ⟨h4, g, d, tk0 + 1, os⟩) n4 rfl (x := old) rfl
  refine wpAny_bind (wpAny_setField_rec (s := ⟨h4, g, d, tk0 + 1, os⟩) n4 (by simp) fun h5 n5 s5 => ?_)
  have n5' : IsEnum h5 e it (c + 1) x := n5
  have s5' : Heap.SameBut e h4 h5 := s5
  show wpAny _ _ (Builtin.SmallTypes.ownedTupleHandOut (.ref e) (.ref h1.objs.size) >>= _) _ _ ⟨h5, g, d, tk0 + 1, os⟩
  apply wpAny_bind
  unfold Builtin.SmallTypes.ownedTupleHandOut
  refine wpAny_bind (wpAny_setField_rec (s := ⟨h5, g, d, tk0 + 1, os⟩) n5' (by simp) fun h6 n6 s6 => ?_)
  have n6' : IsEnumOut h6 e it (c + 1) x h1.objs.size := n6
  have s6' : Heap.SameBut e h5 h6 := s6
  refine wpAny_setField_rec (s := ⟨h6, g, d, tk0 + 1, os⟩) n6' (by simp) fun h7 n7 s7 => ?_
  have n7' : IsEnumOut h7 e it (c + 1) x h1.objs.size := n7
  have s7' : Heap.SameBut e h6 h7 := s7
  have k7 : ∀ b o, b ≠ e → h4.get? b = some o → h7.get? b = some o := fun b o q z => s7'.extBut b o q (s6'.extBut b o q (s5'.extBut b o q z))
  refine wpAny_bind (wpAny_letGo (wpAny_pure ⟨_, rfl, wpAny_pure (hQ x h1 h7 tk0 dr n7' (k7 _ _ (Nat.ne_of_gt elt) t4) fun b o q z => k7 b o q (k4 b o q z))⟩))
/-- .. and its end -/
theorem en_next_end {e it : Addr} {c : Int} {old : Value} {G : Heap → Prop} {Q : Option Value → Shared → Prop} (he : IsEnum s.heap e it c old)
    (draw : ∀ (A' : Around) (E' : Value → Shared → Prop) (R : Value → Shared → Prop), A'.handled = A.handled → (∀ h1 x, G h1 → (∃ o, h1.get? x = some o ∧ o.cls = .type "StopIteration") → E' (.ref x) { s with heap := h1 }) →
      wpAny (model prog w) A' (Builtin.SmallTypes.nextOf (.ref it)) R E' s)
    (hQ : ∀ h1, G h1 → Q none { s with heap := h1 }) : wpAny (model prog w) A (pyNext (.ref e)) Q E s := by
  have ty : s.TypeIs (.ref e) "enumerate" := ⟨_, he, rfl⟩
  unfold pyNext
  refine wpAny_bind (wpAny_attempt (wpAny_callSpecial?_slot (name := Str.ofString "__next__") ty F.slot_enumerate_next (wpAny_call_entry F.slot_enumerate_next ty F.entry_enumerate_next ?_ (F.args_enumerate_next_1 _))))
  show wpAny _ _ (field (.ref e) 2 >>= _) _ _ _
  apply wpAny_bind
  apply wpAny_field he rfl (x := .ref it) rfl
  apply wpAny_bind
  refine draw _ _ _ rfl fun h1 x gh ⟨o, ho, hc⟩ => ?_
  refine wpAny_bind (wpAny_isInstance (T := "StopIteration") (b := true) ⟨o, ho, hc⟩ isSubtype_stop (wpAny_pure (hQ _ gh)))

/-- enumerate(z, k), z a zip: one new cell -/
theorem meets_enum_zip (z : Addr) (k : Int) (t : Tok) (hfit : Builtin.SmallTypes.fitsIndex k = true) :
    Meets (Builtin.«enumerate.__new__» ⟨[.type "enumerate", .ref z, .int k t], []⟩) (fun _ R s => (∃ TI TO f0, IsZip s.heap z TI TO f0) ∧
      R (.ok (.ret (.ref s.heap.objs.size))) { s with heap := s.heap.push { cls := .type "enumerate", data := .fields #[.none, .bool false, .ref z, rawInt k, .none, .none] } }) :=
  .of_wp fun prog w A R s h => by
    obtain ⟨hp, g, d, tk, os⟩ := s
    obtain ⟨⟨TI, TO, f0, hz⟩, h⟩ := h
    have hsub := sub_enumerate
    have hnf : (!Builtin.SmallTypes.fitsIndex k) = false := by rw [hfit]; rfl
    have q1 : ∀ {A' : Around} {E : Value → Shared → Prop} {Q : Value → Shared → Prop}, Q (.ref z) ⟨hp, g, d, tk, os⟩ → wpAny (model prog w) A' (pyIter (.ref z)) Q E ⟨hp, g, d, tk, os⟩ := fun q => wpAny_pyIter_zip hz q
    wp_walk using q1
    refine wpAny_stack_any fun st => wpAny_pure ?_
    split
    · rename_i c _ _ _ _ _
      cases (c == Value.type "enumerate")
      · wp_walk using q1
        exact ⟨_, rfl, h⟩
      · wp_walk using q1
        exact ⟨_, rfl, h⟩
    · wp_walk using q1
      exact ⟨_, rfl, h⟩
theorem call_enum_zip {z TI TO : Addr} {f0 : Value} {k : Int} {t : Tok} {Q : Value → Shared → Prop} (hz : IsZip s.heap z TI TO f0) (h0 : -(2 ^ 63) ≤ k) (h1 : k < 2 ^ 63)
    (h : ∀ h', IsEnum h' s.heap.objs.size z k .none → (∀ b o, s.heap.get? b = some o → h'.get? b = some o) → Q (.ref s.heap.objs.size) { s with heap := h' }) :
    wpAny (model prog w) A (call (.type "enumerate") [.ref z, .int k t]) Q E s := by
  refine callType_new F.called_enumerate (by decide) (F.typeCall_enumerate_2 _ _) (F.newCall_enumerate_2 _ _) (fun obj => F.args_object_init_3 obj _ _) F.entry_enumerate_new (meets_enum_zip z k t (fits_start h0 h1)) ⟨⟨_, _, _, hz⟩, ?_⟩
  have g : (s.heap.push { cls := .type "enumerate", data := .fields #[.none, .bool false, .ref z, rawInt k, .none, .none] }).get? s.heap.objs.size = some { cls := .type "enumerate", data := .fields #[.none, .bool false, .ref z, rawInt k, .none, .none] } := Heap.get?_push_size _ rfl
  exact ⟨⟨_, g, rfl⟩, h _ g fun b o x => Heap.get?_push_of_some _ x⟩
end
end KB
/-! KbEnum3: for p, (a, b) in enumerate(zip(xs, ys), k): the walk as the layer asks it. -/
namespace KB
open PySem PySem.Spec PyProof.Rows L2
/-- the lists at a and b as they stand; each pair in a new tuple, that one behind its count in a new tuple -/
def Itez (K : PySem.W.Frag) (k : Int) (a b : Addr) : It :=
  ⟨fun i H => ∃ (xs ys : List V) (x y : V), SqL K H a xs ∧ SqL K H b ys ∧ xs[i]? = some x ∧ ys[i]? = some y,
    fun i H v H' => ∃ T U x y, v = .ref U ∧ H T = none ∧ H U = none ∧ U ≠ T ∧ H' = upd (upd H T (.tup [x, y])) U (.tup [.int (k + (i : Nat)), .ref T]) ∧ (∀ xs, SqL K H a xs → xs[i]? = some x) ∧ ∀ ys, SqL K H b ys → ys[i]? = some y,
    fun i H => ∃ xs ys : List V, SqL K H a xs ∧ SqL K H b ys ∧ (xs.length ≤ i ∨ ys.length ≤ i)⟩
theorem turn_ez {P : Program} {w : World} {K : PySem.W.Frag} {elts : List Expr} {kk : Nat} {tpos : Pos} {k : Int} {a b e z TI TO i1 i2 : Addr} (D : ZipApart z TI TO i1 i2 a b) (nz : e ≠ z) (nI : e ≠ TI) (nO : e ≠ TO) (n1 : e ≠ i1) (n2 : e ≠ i2) :
    Turn P w K (.Tuple elts kk tpos) (Itez K k a b) [e, z, TI, TO, i1, i2] e
      (fun i h => (∃ old, IsEnum h e z (k + (i : Nat)) old) ∧ ZipSt h z TI TO ∧ IsPair h TI (.ref i1) (.ref i2) ∧ (∃ x y, IsPair h TO x y) ∧ h.IsListIter i1 a i ∧ h.IsListIter i2 b i) where
  mem := by simp
  obj := fun i h st c hc => by
    obtain ⟨⟨old, he⟩, hz, hTI, ⟨x, y, hTO⟩, ⟨o1, g1, _, d1⟩, ⟨o2, g2, _, d2⟩⟩ := st
    have cs : c = e ∨ c = z ∨ c = TI ∨ c = TO ∨ c = i1 ∨ c = i2 := by simpa using hc
    rcases cs with q | q | q | q | q | q <;> subst q
    · exact ⟨_, he, fun v r => nomatch r⟩
    · rcases hz with r | ⟨T, f, r⟩
      · exact ⟨_, r, fun v t => nomatch t⟩
      · exact ⟨_, r, fun v t => nomatch t⟩
    · exact ⟨_, hTI, fun v r => nomatch r⟩
    · exact ⟨_, hTO, fun v r => nomatch r⟩
    · exact ⟨o1, g1, fun v r => by rw [d1] at r; cases r⟩
    · exact ⟨o2, g2, fun v r => by rw [d2] at r; cases r⟩
  keep := fun i h h' st kp => by
    obtain ⟨⟨old, he⟩, hz, hTI, ⟨x, y, hTO⟩, h1, h2⟩ := st
    refine ⟨⟨old, kp e (by simp) _ he⟩, ?_, kp TI (by simp) _ hTI, ⟨x, y, kp TO (by simp) _ hTO⟩, h1.at fun o q => kp i1 (by simp) o q, h2.at fun o q => kp i2 (by simp) o q⟩
    rcases hz with r | ⟨T, f, r⟩
    · exact .inl (kp z (by simp) _ r)
    · exact .inr ⟨T, f, kp z (by simp) _ r⟩
  item := by
    intro X hP hw hK hc i pins s σ H E I hf st hg
    subst hP hw hK
    obtain ⟨⟨old, he⟩, hz, hTI, hTO, h1, h2⟩ := st
    obtain ⟨xs, ys, x, y, hqx, hqy, hx, hy⟩ := hg
    obtain ⟨its, rv, p1, _⟩ := I.list hqx
    obtain ⟨jts, rw', p2, _⟩ := I.list hqy
    obtain ⟨u, hu, ru⟩ := rv.get hx
    obtain ⟨v, hv, rv'⟩ := rw'.get hy
    have lt : ∀ c ∈ [e, z, TI, TO, i1, i2], c < s.heap.objs.size := fun c hm => by
      have cs : c = e ∨ c = z ∨ c = TI ∨ c = TO ∨ c = i1 ∨ c = i2 := by simpa using hm
      rcases cs with q | q | q | q | q | q <;> subst q
      · exact Heap.lt_size he
      · rcases hz with r | ⟨T, f, r⟩
        · exact Heap.lt_size r
        · exact Heap.lt_size r
      · exact Heap.lt_size hTI
      · obtain ⟨_, _, q⟩ := hTO; exact Heap.lt_size q
      · obtain ⟨_, q, _⟩ := h1; exact Heap.lt_size q
      · obtain ⟨_, q, _⟩ := h2; exact Heap.lt_size q
    have elt : e < s.heap.objs.size := lt e (by simp)
    refine en_next (Dr := fun d h3 => d = .ref s.heap.objs.size ∧ ZipSt h3 z TI TO ∧ (∃ x y, IsPair h3 TO x y) ∧ h3.IsListIter i1 a (i + 1) ∧ h3.IsListIter i2 b (i + 1) ∧ IsPair h3 s.heap.objs.size u v ∧ h3.objs.size = s.heap.objs.size + 1 ∧
      ∀ c o, c ≠ z → c ≠ TO → c ≠ i1 → c ≠ i2 → s.heap.get? c = some o → h3.get? c = some o) he (fun A' E' R _ hR => ?_) fun d h3 h4 tk dr out tup kp => ?_
    · exact zip_draw D hz hTI hTO h1 h2 p1.isList p2.isList (x := u) (y := v) (by simpa using hu) (by simpa using hv) fun h3 c1 c2 c3 c4 c5 c6 c7 => hR _ h3 ⟨rfl, c1, c2, c3, c4, c5, c6, c7⟩ (c7 _ _ nz nO n1 n2 he)
    · obtain ⟨rfl, c1, c2, c3, c4, c5, c6, c7⟩ := dr
      refine ⟨_, rfl, wpAny_letOwnedTupleGo_enum (s := { s with heap := h4, toks := tk + 1 }) out fun h5 e5 sb => ?_⟩
      -- the pair, then the pair of the count and it
      have new1 : ObjOk X.prog X.w (upd H s.heap.objs.size (.tup [x, y])) h3 s.heap.objs.size (.tup [x, y]) := ⟨by show 2 ≤ sizeLine; decide, [u, v], .cons ru (.cons rv' .nil), ⟨_, c5, rfl, _, rfl⟩⟩
      have I1 : Inv X pins σ (upd H s.heap.objs.size (.tup [x, y])) { s with heap := h3 } :=
        I.turnedNew (t' := s.toks) (ch := [e, z, TI, TO, i1, i2]) (fun c o hb q => c7 c o (fun r => hb (by simp [r])) (fun r => hb (by simp [r])) (fun r => hb (by simp [r])) (fun r => hb (by simp [r])) q) hf (Nat.le_refl _) new1
      have size3 : s.heap.objs.size < h3.objs.size := by rw [c6]; exact Nat.lt_succ_self _
      have ne3 : h3.objs.size ≠ e := Nat.ne_of_gt (Nat.lt_trans elt size3)
      have t5 : h5.get? h3.objs.size = some { cls := .type "tuple", data := .seq #[.int (k + (i : Nat)) tk, .ref s.heap.objs.size] } := (sb.2 _ ne3).trans tup
      have new2 : ObjOk X.prog X.w (upd (upd H s.heap.objs.size (.tup [x, y])) h3.objs.size (.tup [.int (k + (i : Nat)), .ref s.heap.objs.size])) h5 h3.objs.size (.tup [.int (k + (i : Nat)), .ref s.heap.objs.size]) :=
        ⟨by show 2 ≤ sizeLine; decide, [.int (k + (i : Nat)) tk, .ref s.heap.objs.size], .cons ⟨_, rfl⟩ (.cons rfl .nil), ⟨_, t5, rfl, _, rfl⟩⟩
      have hf1 : ∀ c ∈ [e], FpOk X pins (upd H s.heap.objs.size (.tup [x, y])) c := fun c hm => by
        have q : c = e := by simpa using hm
        subst q
        refine ⟨?_, (hf c (by simp)).2⟩
        rw [upd_ne (Nat.ne_of_lt elt)]
        exact (hf c (by simp)).1
      have I2 : Inv X pins σ (upd (upd H s.heap.objs.size (.tup [x, y])) h3.objs.size (.tup [.int (k + (i : Nat)), .ref s.heap.objs.size])) { s with heap := h5, toks := tk + 1 } :=
        Inv.turnedNew (s := { s with heap := h3 }) (t' := tk + 1) (ch := [e]) I1 (fun c o hb q => (sb.2 c (fun r => hb (by simp [r]))).trans (kp c o (fun r => hb (by simp [r])) q)) hf1 (Nat.le_refl _) new2
      have up : ∀ c o, c ≠ e → h3.get? c = some o → h5.get? c = some o := fun c o hce q => (sb.2 c hce).trans (kp c o hce q)
      refine ⟨.ref h3.objs.size, _, I2, rfl, ⟨s.heap.objs.size, h3.objs.size, x, y, rfl, I.hok.fresh (Nat.le_refl _), I.hok.fresh (Nat.le_of_lt size3), Nat.ne_of_gt size3, rfl, fun l hl => by rw [I.list_inj hl hqx]; exact hx, fun l hl => by rw [I.list_inj hl hqy]; exact hy⟩,
        ⟨⟨.ref s.heap.objs.size, ?_⟩, ?_, ?_, ?_, ?_, ?_⟩, fun c hm => ?_⟩
      · have ek : k + ((i + 1 : Nat) : Int) = k + (i : Nat) + 1 := by omega
        rw [ek]
        exact e5
      · rcases c1 with r | ⟨T, f, r⟩
        · exact .inl (up _ _ nz.symm r)
        · exact .inr ⟨T, f, up _ _ nz.symm r⟩
      · exact up _ _ nI.symm (c7 _ _ D.TIz D.TITO D.TIi1 D.TIi2 hTI)
      · obtain ⟨r1, r2, r⟩ := c2
        exact ⟨r1, r2, up _ _ nO.symm r⟩
      · exact c3.at fun o q => up _ o n1.symm q
      · exact c4.at fun o q => up _ o n2.symm q
      · have l1 := lt c hm
        rw [upd_ne (Nat.ne_of_lt (Nat.lt_trans l1 size3)), upd_ne (Nat.ne_of_lt l1)]
        exact (hf c hm).1
  done := by
    intro X hP hw hK hc i pins s σ H E I hf st hg
    subst hP hw hK
    obtain ⟨⟨old, he⟩, hz, hTI, hTO, h1, h2⟩ := st
    obtain ⟨xs, ys, hqx, hqy, hend⟩ := hg
    obtain ⟨its, rv, p1, _⟩ := I.list hqx
    obtain ⟨jts, rw', p2, _⟩ := I.list hqy
    have l1 := rv.length
    have l2 := rw'.length
    have no : its.toArray[i]? = none ∨ jts.toArray[i]? = none := by
      rcases hend with q | q
      · left; simp; omega
      · right; simp; omega
    refine en_next_end (G := fun h3 => ∀ c o, c ≠ z → c ≠ TO → c ≠ i1 → c ≠ i2 → s.heap.get? c = some o → h3.get? c = some o) he (fun A' E' R hA hE => ?_) fun h3 kp => ?_
    · exact zip_draw_end (hA.trans (I.ok.hd hc)) D hz hTI hTO h1 h2 p1.isList p2.isList no fun h3 q kp sp => hE h3 q kp sp
    · exact ⟨rfl, I.turnedL (t' := s.toks) (ch := [e, z, TI, TO, i1, i2]) (fun c o hb q => kp c o (fun r => hb (by simp [r])) (fun r => hb (by simp [r])) (fun r => hb (by simp [r])) (fun r => hb (by simp [r])) q) hf⟩
  self := fun A i s Q E st h => by
    obtain ⟨⟨_, he⟩, _⟩ := st
    exact wpAny_pyIter_enum he h
def iEZ (K : PySem.W.Frag) (k : Int) (ta : TA) : TI := fun σ H R => ta σ H fun vs H1 => ∃ a b xs ys, vs = [.ref a, .ref b] ∧ SqL K H1 a xs ∧ SqL K H1 b ys ∧ R (Itez K k a b) H1
theorem pi_ez {X : Cx} {e1 e2 : Expr} {ta : TA} {p p2 pos pos2 cpos tpos : Pos} {j : Nat} {k : Int} {elts : List Expr} {kk : Nat} (gE : Gl X "enumerate") (mE : X.mg "enumerate" = none) (gZ : Gl X "zip") (mZ : X.mg "zip" = none) (hk0 : -(2 ^ 63) ≤ k) (hk1 : k < 2 ^ 63)
    (ha : PA X [e1, e2] ta) (hs : starEach [e1, e2] X.env = (false, eval e1 X.env) :: starEach [e2] X.env := by rfl) (hpl : (backTo pos2 (starEach [e2] X.env)).any (·.1) = false := by rfl)
    (hsO : starEach [.Call (.Name "zip" p2) [e1, e2] [] pos2, .Constant (.int k) j cpos] X.env = [(false, eval (.Call (.Name "zip" p2) [e1, e2] [] pos2) X.env), (false, eval (.Constant (.int k) j cpos) X.env)] := by rfl) :
    PI X (.Tuple elts kk tpos) (.Call (.Name "enumerate" p) [.Call (.Name "zip" p2) [e1, e2] [] pos2, .Constant (.int k) j cpos] [] pos) (iEZ X.K k ta) := by
  constructor
  intro pins s σ H R I h
  refine Call_ (ld_blt I gE mE boot_enumerate (PyProof.Rows.callWith_type1 ?_ hsO rfl))
  rw [hsO]
  show wpAny _ _ (spliced [(false, eval (.Call (.Name "zip" p2) [e1, e2] [] pos2) X.env), _]) _ _ s
  refine Calls.spliced_cons (Call_ (ld_blt I gZ mZ PyProof.Rows.boot_zip (PyProof.Rows.callWith_type1 (thn (ha.run pos2 pins s σ H _ I h) ?_) hs hpl)))
  rintro us s1 ⟨vs, H1, I1, r1, a, b, xs, ys, rfl, hqx, hqy, q⟩
  obtain ⟨u1, u2, rfl, ra, rb⟩ := Vals.two r1
  cases ra
  cases rb
  obtain ⟨its, rv, p1, _⟩ := I1.list hqx
  obtain ⟨jts, rw', p2', _⟩ := I1.list hqy
  have la : a < s1.heap.objs.size := p1.lt
  have lb : b < s1.heap.objs.size := p2'.lt
  refine call_zip_2 p1.isList p2'.isList fun h2 hz hTI hTO h1 hi2 size2 kp => ?_
  show wpAny _ _ (spliced [(false, _)]) _ _ _
  refine Calls.spliced_cons ?_
  rw [if_neg Bool.false_ne_true]
  refine wpAny_Constant_int (Calls.spliced_nil ?_)
  refine call_enum_zip (s := { s1 with heap := h2, toks := s1.toks + 1 }) hz hk0 hk1 fun h3 he kp3 => wpAny_pyIter_enum (s := { s1 with heap := h3, toks := s1.toks + 1 }) he ?_
  have I3 : Inv X pins σ H1 { s1 with heap := h3, toks := s1.toks + 1 } := I1.kept fun c o e => kp3 c o (kp c o e)
  have e5 : (h2.objs.size : Nat) = s1.heap.objs.size + 5 := size2
  have gt : ∀ m : Nat, m < 5 → (h2.objs.size : Nat) ≠ s1.heap.objs.size + m := fun m hm => by omega
  refine ⟨h2.objs.size, [h2.objs.size, s1.heap.objs.size + 4, s1.heap.objs.size + 2, s1.heap.objs.size + 3, s1.heap.objs.size, s1.heap.objs.size + 1], _, _, H1, rfl, I3,
    turn_ez (PySem.W.ktu_apart s1.heap.objs.size a b la lb) (gt 4 (by decide)) (gt 2 (by decide)) (gt 3 (by decide)) (gt 0 (by decide)) (gt 1 (by decide)), ⟨⟨.none, ?_⟩, .inl (kp3 _ _ hz), kp3 _ _ hTI, ⟨_, _, kp3 _ _ hTO⟩, h1.at fun o e => kp3 _ o e, hi2.at fun o e => kp3 _ o e⟩, fun c hm => ?_, q⟩
  · have ek : k + ((0 : Nat) : Int) = k := by omega
    rw [ek]
    exact he
  · have hle : (s1.heap.objs.size : Nat) ≤ c := by
      have cs : c = h2.objs.size ∨ c = s1.heap.objs.size + 4 ∨ c = s1.heap.objs.size + 2 ∨ c = s1.heap.objs.size + 3 ∨ c = s1.heap.objs.size ∨ c = s1.heap.objs.size + 1 := by simpa using hm
      rcases cs with r | r | r | r | r | r
      · rw [r, e5]; exact Nat.le_add_right _ _
      · rw [r]; exact Nat.le_add_right _ _
      · rw [r]; exact Nat.le_add_right _ _
      · rw [r]; exact Nat.le_add_right _ _
      · rw [r]; exact Nat.le_refl _
      · rw [r]; exact Nat.le_add_right _ _
    exact I1.fpOk hle (I1.hok.fresh hle)
/-- what it gives at turn i, the lists at a and b known -/
def YEz (k : Int) (xs ys : List V) : Nat → Hp → V → Hp → Prop := fun i H v H' => ∃ T U x y, v = .ref U ∧ H T = none ∧ H U = none ∧ U ≠ T ∧ H' = upd (upd H T (.tup [x, y])) U (.tup [.int (k + (i : Nat)), .ref T]) ∧ xs[i]? = some x ∧ ys[i]? = some y
theorem walk_ez {K : PySem.W.Frag} {a b : Addr} {xs ys : List V} {k : Int} {n : Nat} (hn : n = min xs.length ys.length) : Walk (Itez K k a b) n (fun H => SqL K H a xs ∧ SqL K H b ys) (YEz k xs ys) := by
  subst hn
  refine ⟨fun i H hi g => ?_, fun H g => ⟨xs, ys, g.1, g.2, by omega⟩, fun i H v H' _ g y => ?_⟩
  · have h1 : i < xs.length := by omega
    have h2 : i < ys.length := by omega
    exact ⟨xs, ys, xs[i], ys[i], g.1, g.2, by simp [h1], by simp [h2]⟩
  · obtain ⟨T, U, x, z, c1, c2, c3, c4, c5, c6, c7⟩ := y
    exact ⟨T, U, x, z, c1, c2, c3, c4, c5, c6 xs g.1, c7 ys g.2⟩
end KB
/-! KpText: the defs by their places, their names by slot; a def's bundle; windows in the heap. -/
namespace KP
open PySem PySem.Spec PyProof.Rows L2
def topS (i : Nat) : Stmt := PySem.Challenge.pw_groupsteps_k13_whole_rising_lists.main.body.getD i (.Pass ⟨0, 0, 0, 0⟩)
abbrev sInt : Stmt := topS 6
abbrev sVer : Stmt := topS 7
abbrev sReqV : Stmt := topS 8
abbrev sWin : Stmt := topS 10
abbrev sReqW : Stmt := topS 11
abbrev sReqL : Stmt := topS 12
abbrev sReach : Stmt := topS 13
abbrev sCont : Stmt := topS 14
abbrev sRise : Stmt := topS 15
abbrev sFall : Stmt := topS 16
abbrev sLeast : Stmt := topS 17
abbrev sRng : Stmt := topS 19
abbrev sDraw : Stmt := topS 20
abbrev sChoice : Stmt := topS 21
abbrev sMake : Stmt := topS 22
abbrev sTop : Stmt := topS 23
abbrev sFalls : Stmt := topS 24
abbrev sFirst : Stmt := topS 25
abbrev sRepl : Stmt := topS 26
abbrev sMove : Stmt := topS 27
abbrev sRight : Stmt := topS 28
abbrev sLaw : Stmt := topS 29
theorem scInt : FnScope ["value"] ["value"] (defScope sInt) := ⟨rfl, rfl, rfl, by decide +kernel, rfl, by decide +kernel, by decide +kernel⟩
theorem scVer : FnScope ["value"] ["value"] (defScope sVer) := ⟨rfl, rfl, rfl, by decide +kernel, rfl, by decide +kernel, by decide +kernel⟩
theorem scReqV : FnScope ["value"] ["value"] (defScope sReqV) := ⟨rfl, rfl, rfl, by decide +kernel, rfl, by decide +kernel, by decide +kernel⟩
theorem scWin : FnScope ["value", "low", "high"] ["value"] (defScope sWin) := ⟨rfl, rfl, rfl, by decide +kernel, rfl, by decide +kernel, by decide +kernel⟩
theorem scReqW : FnScope ["value"] ["value"] (defScope sReqW) := ⟨rfl, rfl, rfl, by decide +kernel, rfl, by decide +kernel, by decide +kernel⟩
theorem scReqL : FnScope ["value", "position", "window"] ["value"] (defScope sReqL) := ⟨rfl, rfl, rfl, by decide +kernel, rfl, by decide +kernel, by decide +kernel⟩
theorem scReach : FnScope ["window", "version"] ["window", "version"] (defScope sReach) := ⟨rfl, rfl, rfl, by decide +kernel, rfl, by decide +kernel, by decide +kernel⟩
theorem scCont : FnScope ["window", "version"] ["window", "version"] (defScope sCont) := ⟨rfl, rfl, rfl, by decide +kernel, rfl, by decide +kernel, by decide +kernel⟩
theorem scRise : FnScope ["first", "second"] ["first", "second"] (defScope sRise) := ⟨rfl, rfl, rfl, by decide +kernel, rfl, by decide +kernel, by decide +kernel⟩
theorem scFall : FnScope ["windows", "position", "first", "second"] ["windows"] (defScope sFall) := ⟨rfl, rfl, rfl, by decide +kernel, rfl, by decide +kernel, by decide +kernel⟩
theorem scLeast : FnScope ["windows", "version", "falling", "position", "window"] ["windows", "version"] (defScope sLeast) := ⟨rfl, rfl, rfl, by decide +kernel, rfl, by decide +kernel, by decide +kernel⟩
theorem scRng : FnScope ["_law_script", "_law_k", "_law_cell"] ["_law_script", "_law_k"] (defScope sRng) := ⟨rfl, rfl, rfl, by decide +kernel, rfl, by decide +kernel, by decide +kernel⟩
theorem scDraw : FnScope ["_law_rng_here", "_law_many", "_law_digit"] ["_law_rng_here", "_law_many"] (defScope sDraw) := ⟨rfl, rfl, rfl, by decide +kernel, rfl, by decide +kernel, by decide +kernel⟩
theorem scChoice : FnScope ["_law_rng_here", "_law_options"] ["_law_rng_here", "_law_options"] (defScope sChoice) := ⟨rfl, rfl, rfl, by decide +kernel, rfl, by decide +kernel, by decide +kernel⟩
theorem scMake : FnScope ["_law_rng_here", "_law_many", "_law_loose", "_law_low", "_law_high", "_law_found", "_law_k"] ["_law_rng_here", "_law_many", "_law_loose"] (defScope sMake) := ⟨rfl, rfl, rfl, by decide +kernel, rfl, by decide +kernel, by decide +kernel⟩
theorem scTop : FnScope ["_law_one"] ["_law_one"] (defScope sTop) := ⟨rfl, rfl, rfl, by decide +kernel, rfl, by decide +kernel, by decide +kernel⟩
theorem scFalls : FnScope ["_law_one", "_law_other"] ["_law_one", "_law_other"] (defScope sFalls) := ⟨rfl, rfl, rfl, by decide +kernel, rfl, by decide +kernel, by decide +kernel⟩
theorem scFirst : FnScope ["_law_flags", "_law_k", "_law_flag"] ["_law_flags"] (defScope sFirst) := ⟨rfl, rfl, rfl, by decide +kernel, rfl, by decide +kernel, by decide +kernel⟩
theorem scRepl : FnScope ["_law_rng_here", "_law_some", "_law_found", "_law_turn", "_law_low"] ["_law_rng_here", "_law_some"] (defScope sRepl) := ⟨rfl, rfl, rfl, by decide +kernel, rfl, by decide +kernel, by decide +kernel⟩
theorem scMove : FnScope ["_law_some", "_law_far", "_law_one"] ["_law_some", "_law_far"] (defScope sMove) := ⟨rfl, rfl, rfl, by decide +kernel, rfl, by decide +kernel, by decide +kernel⟩
theorem scRight : FnScope ["_law_rng_here", "_law_some", "_law_kept", "_law_flags", "_law_due", "_law_numbers", "_law_number", "_law_found", "_law_told", "_law_one", "_law_other", "_law_flag"] ["_law_rng_here", "_law_some"] (defScope sRight) := ⟨rfl, rfl, rfl, by decide +kernel, rfl, by decide +kernel, by decide +kernel⟩
theorem scLaw : FnScope ["_law_script", "_law_k", "_law_rng_here", "_law_turn", "_law_most", "_law_some", "_law_low"] ["_law_script"] (defScope sLaw) := ⟨rfl, rfl, rfl, by decide +kernel, rfl, by decide +kernel, by decide +kernel⟩

/-! ### a def's bundle: its promise, its name, how it is called -/
structure Dn (P : Program) (w : World) (K : PySem.W.Frag) (mg : Str → Option Value) (base : Heap) (k : Nat) (x : Str) (ps : List Str) (sp : Sp) (f : Addr) (fd : FuncData) : Prop where
  ok : FnOk P w K mg base CX0 k f fd ps sp
  gl : mg x = some (.ref f)
  kp : PySem.W.keepIn K (.ref f) = true
  bd : Binds K fd ps []
section
variable {X : Cx} {k m : Nat} {f : Addr} {fd : FuncData} {ps : List Str} {sp : Sp} {x : Str} {p pos : Pos} {e : Expr} {es : List Expr} {t : TA}
theorem pcall (D : Dn X.prog X.w X.K X.mg X.base k x ps sp f fd) (hr : Room m X.A) (ha : PA X (e :: es) t) (hle : k ≤ m := by decide) (hg : Gl X x := by rfl) (hdb : (x == ("__debug__" : Str)) = false := by decide)
    (he : starEach (e :: es) X.env = (false, eval e X.env) :: starEach es X.env := by rfl) (hpl : (backTo pos (starEach es X.env)).any (·.1) = false := by rfl) : PE X (.Call (.Name x p) (e :: es) [] pos) (tCall sp [] E0 t) :=
  pe_call D.ok (hr.mono hle) hg D.gl D.kp D.bd .nil pass0 ha hdb he hpl
theorem pbB {r : List V → Hp → VK → Prop} {id : String} (hc : CallR X (.builtin id) r) (hm : X.mg x = none) (hv : bootBuiltins x = some (.builtin id)) (ha : PA X (e :: es) t) (hg : Gl X x := by rfl) (hn : x ≠ "__name__" := by decide) (hdb : (x == ("__debug__" : Str)) = false := by decide)
    (he : starEach (e :: es) X.env = (false, eval e X.env) :: starEach es X.env := by rfl) (hpl : (backTo pos (starEach es X.env)).any (·.1) = false := by rfl) : PE X (.Call (.Name x p) (e :: es) [] pos) (tCB r t) := pe_callB hc hg hm hv ha hn hdb he hpl
theorem pbT {r : List V → Hp → VK → Prop} {T : String} (hc : CallR X (.type T) r) (hm : X.mg x = none) (hv : bootBuiltins x = some (.type T)) (ha : PA X (e :: es) t) (hg : Gl X x := by rfl) (hn : x ≠ "__name__" := by decide) (hdb : (x == ("__debug__" : Str)) = false := by decide)
    (he : starEach (e :: es) X.env = (false, eval e X.env) :: starEach es X.env := by rfl) (hpl : (backTo pos (starEach es X.env)).any (·.1) = false := by rfl) : PE X (.Call (.Name x p) (e :: es) [] pos) (tCB r t) := pe_callTy hc hg hm hv ha hn hdb he hpl
end
/-- the builtins that stand under their own names -/
structure Blt (mg : Str → Option Value) : Prop where
  isi : mg "isinstance" = none
  int : mg "int" = none
  bool : mg "bool" = none
  tup : mg "tuple" = none
  lst : mg "list" = none
  len : mg "len" = none
  enum : mg "enumerate" = none
  zip : mg "zip" = none
  abs : mg "abs" = none
  max : mg "max" = none
  min : mg "min" = none
  dm : mg "divmod" = none
  rng : mg "range" = none
  repr : mg "repr" = none

theorem bI : bootBuiltins "int" = some (.type "int") := by decide +kernel
theorem bB : bootBuiltins "bool" = some (.type "bool") := by decide +kernel
theorem bT : bootBuiltins "tuple" = some (.type "tuple") := by decide +kernel
theorem bL : bootBuiltins "list" = some (.type "list") := by decide +kernel

/-! ### windows -/
abbrev Win := Int × Option Int
def hv : Option Int → V
  | none => .non
  | some h => .int h
def tw (p : Win) : List V := [.int p.1, hv p.2]
/-- v is the window p -/
def WinAt (H : Hp) (v : V) (p : Win) : Prop := ∃ a, v = .ref a ∧ H a = some (.tup (tw p))
/-- vs are the windows ps -/
structure Wins (H : Hp) (vs : List V) (ps : List Win) : Prop where
  len : vs.length = ps.length
  at' : ∀ (i : Nat) (v : V) (p : Win), vs[i]? = some v → ps[i]? = some p → WinAt H v p
/-- a window within a bound -/
def WOk (M : Int) (p : Win) : Prop := 0 ≤ p.1 ∧ p.1 ≤ M ∧ ∀ h, p.2 = some h → p.1 ≤ h ∧ h ≤ M
def AllOk (M : Int) (ps : List Win) : Prop := ∀ p ∈ ps, WOk M p
/-- tuples stay -/
def Tups (H H' : Hp) : Prop := ∀ b xs, H b = some (.tup xs) → H' b = some (.tup xs)
theorem Tups.refl (H : Hp) : Tups H H := fun _ _ h => h
theorem Tups.trans {H H1 H2 : Hp} (a : Tups H H1) (b : Tups H1 H2) : Tups H H2 := fun c xs h => b c xs (a c xs h)
theorem Same.tups {H H' : Hp} (s : Same H H') : Tups H H' := fun b xs h => s b _ h
theorem WinAt.to {H H' : Hp} {v : V} {p : Win} (w : WinAt H v p) (t : Tups H H') : WinAt H' v p := by
  obtain ⟨a, e, h⟩ := w
  exact ⟨a, e, t a _ h⟩
theorem Wins.to {H H' : Hp} {vs : List V} {ps : List Win} (w : Wins H vs ps) (t : Tups H H') : Wins H' vs ps := ⟨w.len, fun i v p h1 h2 => (w.at' i v p h1 h2).to t⟩
theorem Wins.nil {H : Hp} : Wins H [] [] := ⟨rfl, fun i v p h _ => by simp at h⟩
theorem Wins.get {H : Hp} {vs : List V} {ps : List Win} (w : Wins H vs ps) {i : Nat} {v : V} (h : vs[i]? = some v) : ∃ p, ps[i]? = some p ∧ WinAt H v p := by
  have hi : i < ps.length := by
    rw [← w.len]
    exact (List.getElem?_eq_some_iff.mp h).1
  exact ⟨ps[i], List.getElem?_eq_getElem hi, w.at' i v _ h (List.getElem?_eq_getElem hi)⟩
theorem Wins.push {H : Hp} {vs : List V} {ps : List Win} {v : V} {p : Win} (w : Wins H vs ps) (n : WinAt H v p) : Wins H (vs ++ [v]) (ps ++ [p]) := by
  refine ⟨by rw [List.length_append, List.length_append, w.len]; rfl, fun i x q h1 h2 => ?_⟩
  by_cases hi : i < vs.length
  · rw [List.getElem?_append_left hi] at h1
    rw [List.getElem?_append_left (by rw [← w.len]; exact hi)] at h2
    exact w.at' i x q h1 h2
  · have l := w.len
    rw [List.getElem?_append_right (by omega)] at h1 h2
    rw [← l] at h2
    cases e : i - vs.length with
    | zero =>
      rw [e] at h1 h2
      cases h1
      cases h2
      exact n
    | succ j =>
      rw [e] at h1
      simp at h1
theorem Wins.set {H : Hp} {vs : List V} {ps : List Win} {v : V} {p : Win} (w : Wins H vs ps) (n : WinAt H v p) (j : Nat) : Wins H (vs.set j v) (ps.set j p) := by
  refine ⟨by rw [List.length_set, List.length_set]; exact w.len, fun i x q h1 h2 => ?_⟩
  by_cases hi : j = i
  · subst hi
    have l1 : j < vs.length := by
      have := (List.getElem?_eq_some_iff.mp h1).1
      rw [List.length_set] at this
      exact this
    rw [List.getElem?_set_self l1] at h1
    rw [List.getElem?_set_self (by rw [← w.len]; exact l1)] at h2
    cases h1
    cases h2
    exact n
  · rw [List.getElem?_set_ne hi] at h1 h2
    exact w.at' i x q h1 h2
theorem AllOk.mono {M N : Int} {ps : List Win} (h : AllOk M ps) (hl : M ≤ N) : AllOk N ps := fun p hp => by
  obtain ⟨h1, h2, h3⟩ := h p hp
  refine ⟨h1, by omega, fun x hx => ?_⟩
  have := h3 x hx
  omega
theorem AllOk.push {M : Int} {ps : List Win} {p : Win} (h : AllOk M ps) (hp : WOk M p) : AllOk M (ps ++ [p]) := fun q hq => by
  rcases List.mem_append.mp hq with z | z
  · exact h q z
  · rw [List.mem_singleton.mp z]
    exact hp
theorem AllOk.set {M : Int} {ps : List Win} {p : Win} (h : AllOk M ps) (hp : WOk M p) (j : Nat) : AllOk M (ps.set j p) := fun q hq => by
  rcases List.mem_or_eq_of_mem_set hq with z | z
  · exact h q z
  · rw [z]
    exact hp
theorem AllOk.at' {M : Int} {ps : List Win} (h : AllOk M ps) {i : Nat} {p : Win} (e : ps[i]? = some p) : WOk M p := h p (List.mem_of_getElem? e)

/-! ### heaps -/
/-- everything but what stands at r is as it was -/
def Keep (r : Addr) (H H' : Hp) : Prop := ∀ b o, b ≠ r → H b = some o → H' b = some o
theorem same_upd {H : Hp} {p : Addr} {o : HO} (h : H p = none) : Same H (upd H p o) := fun b x e => by
  rw [upd_ne (ne_of_none e h)]
  exact e
theorem Keep.refl (r : Addr) (H : Hp) : Keep r H H := fun _ _ _ h => h
theorem Keep.trans {r : Addr} {H H1 H2 : Hp} (a : Keep r H H1) (b : Keep r H1 H2) : Keep r H H2 := fun c o n h => b c o n (a c o n h)
theorem Same.keep {r : Addr} {H H' : Hp} (s : Same H H') : Keep r H H' := fun b o _ h => s b o h
theorem Keep.upd {r : Addr} {H : Hp} {o : HO} : Keep r H (upd H r o) := fun b x n h => by
  rw [upd_ne n]
  exact h
/-- the random numbers' state at r -/
def Rng (H : Hp) (r : Addr) : Prop := ∃ A B : Int, H r = some (.lst [.int A, .int B]) ∧ 0 ≤ A ∧ 0 ≤ B ∧ B < 4294967296
theorem Rng.ne {H : Hp} {r : Addr} (g : Rng H r) {b : Addr} {xs : List V} (h : H b = some (.tup xs)) : b ≠ r := by
  obtain ⟨A, B, e, _⟩ := g
  exact ne_of h e (by intro z; cases z)
theorem Keep.tups {r : Addr} {H H' : Hp} (k : Keep r H H') (g : Rng H r) : Tups H H' := fun b xs h => k b _ (g.ne h) h
theorem Rng.same {H H' : Hp} {r : Addr} (g : Rng H r) (s : Same H H') : Rng H' r := by
  obtain ⟨A, B, e, h⟩ := g
  exact ⟨A, B, s r _ e, h⟩
theorem small {n : Nat} (h : n ≤ 1000) : n ≤ sizeLine := Nat.le_of_lt (small1000 h)
/-! ### the plain functions -/
def reachB (p : Win) (v : Int) : Bool := match p.2 with
  | none => true
  | some h => decide (v ≤ h)
def contB (p : Win) (v : Int) : Bool := decide (p.1 ≤ v) && reachB p v
def riseB (p q : Win) : Bool := if q.1 < p.1 then false else match p.2 with
  | none => decide (hv q.2 = .non)
  | some h => reachB q h
def ov : Option Nat → V
  | none => .non
  | some n => .int n
end KP
/-! KpWin: is_integer to rises. -/
namespace KP
open PySem PySem.Spec PyProof.Rows L2
section
variable {P : Program} {w : World} {K : PySem.W.Frag} {mg : Str → Option Value} {base : Heap}
def spInt : Sp := fun vs H Q _ => ∃ i, vs = [.int i] ∧ Q (.bl true) H
def spVer : Sp := fun vs H Q _ => ∃ i, vs = [.int i] ∧ Q (.bl (decide (0 ≤ i))) H
def spReqV : Sp := fun vs H Q _ => ∃ i, vs = [.int i] ∧ 0 ≤ i ∧ Q .non H
def spWin : Sp := fun vs H Q _ => ∃ v p M, vs = [v] ∧ WinAt H v p ∧ WOk M p ∧ Q (.bl true) H
def spReqW : Sp := fun vs H Q _ => ∃ v p M, vs = [v] ∧ WinAt H v p ∧ WOk M p ∧ Q .non H
def spReqL : Sp := fun vs H Q _ => ∃ a us ps M, vs = [.ref a] ∧ H a = some (.lst us) ∧ Wins H us ps ∧ AllOk M ps ∧ ∀ H', Same H H' → Q .non H'
def spReach : Sp := fun vs H Q _ => ∃ v p n, vs = [v, .int n] ∧ WinAt H v p ∧ Q (.bl (reachB p n)) H
def spCont : Sp := fun vs H Q _ => ∃ v p M n, vs = [v, .int n] ∧ WinAt H v p ∧ WOk M p ∧ 0 ≤ n ∧ Q (.bl (contB p n)) H
def spRise : Sp := fun vs H Q _ => ∃ v p u q M N, vs = [v, u] ∧ WinAt H v p ∧ WinAt H u q ∧ WOk M p ∧ WOk N q ∧ Q (.bl (riseB p q)) H
theorem ok_int {f : Addr} {fd : FuncData} {k : Nat} (F : Fun K "is_integer" "is_integer" sInt f fd) (B : Blt mg) : FnOk P w K mg base CX0 (k + 1) f fd ["value"] spInt := by
  refine F.ok scInt (fun vs H Q E h => ?_) (fun cdv A outer s H vs Q E hr h => ?_)
  · obtain ⟨i, rfl, _⟩ := h
    rfl
  · obtain ⟨i, rfl, q⟩ := h
    refine ⟨_, pss_one (ps_ret (pe_and (pbB call_isi B.isi boot_isinstance (pa_cons (pv 0) (pa_cons (pe_bltn (by rfl) B.int bI (v := .ty "int") rfl) pa_nil)))
      (pe_one (pe_not (pbB call_isi B.isi boot_isinstance (pa_cons (pv 0) (pa_cons (pe_bltn (by rfl) B.bool bB (v := .ty "bool") rfl) pa_nil))))))), ?_⟩
    refine ⟨_, rfl, .int i, .ty "int", .type "int", .type "int", true, rfl, .ty _, .base (.int i), kit_ty (by decide +kernel), true, rfl, iteT ?_⟩
    exact ⟨_, rfl, .int i, .ty "bool", .type "int", .type "bool", false, rfl, .ty _, .base (.int i), kit_ty (by decide +kernel), false, rfl, q⟩
theorem ok_ver {f fI : Addr} {fd fdI : FuncData} (F : Fun K "is_version" "is_version" sVer f fd) (B : Blt mg) (DI : Dn P w K mg base 1 "is_integer" ["value"] spInt fI fdI) : FnOk P w K mg base CX0 2 f fd ["value"] spVer := by
  refine F.ok scVer (fun vs H Q E h => ?_) (fun cdv A outer s H vs Q E hr h => ?_)
  · obtain ⟨i, rfl, _⟩ := h
    rfl
  · obtain ⟨i, rfl, q⟩ := h
    refine ⟨_, pss_one (ps_ret (pe_and (pcall DI hr (pa_cons (pv 0) pa_nil)) (pe_one (pe_cmpR op_ge (pv 0) pe_int (nomark _))))), ?_⟩
    exact ⟨_, rfl, i, rfl, true, rfl, iteT ⟨_, rfl, i, 0, rfl, rfl, q⟩⟩
theorem ok_reqV {f fV : Addr} {fd fdV : FuncData} (F : Fun K "require_version" "require_version" sReqV f fd) (DV : Dn P w K mg base 2 "is_version" ["value"] spVer fV fdV) : FnOk P w K mg base CX0 3 f fd ["value"] spReqV := by
  refine F.ok scReqV (fun vs H Q E h => ?_) (fun cdv A outer s H vs Q E hr h => ?_)
  · obtain ⟨i, rfl, _⟩ := h
    rfl
  · obtain ⟨i, rfl, h0, q⟩ := h
    refine ⟨_, pss_one (ps_if (pt_not (pt_val (pcall DV hr (pa_cons (pv 0) pa_nil)))) (pss_one ps_never) pss_nil), ?_⟩
    refine ⟨_, rfl, i, rfl, _, rfl, ?_⟩
    rw [decide_eq_true h0]
    exact iteF q
theorem ok_win {f fV : Addr} {fd fdV : FuncData} (F : Fun K "is_window" "is_window" sWin f fd) (B : Blt mg) (DV : Dn P w K mg base 2 "is_version" ["value"] spVer fV fdV) : FnOk P w K mg base CX0 3 f fd ["value"] spWin := by
  refine F.ok scWin (fun vs H Q E h => ?_) (fun cdv A outer s H vs Q E hr h => ?_)
  · obtain ⟨v, p, M, rfl, _⟩ := h
    rfl
  · obtain ⟨v, ⟨lo, hi⟩, M, rfl, ⟨a, rfl, ea⟩, ⟨h0, h1, h2⟩, q⟩ := h
    refine ⟨_, pss_cons (ps_if (PW.pt (pw_or (pt_not (pt_val (pbB call_isi B.isi boot_isinstance (pa_cons (pv 0) (pa_cons (pe_bltn (by rfl) B.tup bT (v := .ty "tuple") rfl) pa_nil)))))
        (pw_or (pt_cmpR op_ne (pbB call_len_seq B.len PySem.boot_len (pa_cons (pv 0) pa_nil)) pe_int (nomark _)) (pw_or1 (pt_not (pt_val (pcall DV hr (pa_cons (pe_ix ix_tup (pv 0) pe_int (fun _ _ => rfl)) pa_nil))))))))
        (pss_one (ps_ret pe_bl)) pss_nil)
      (pss_cons (ps_asg (pv 0) (pg_tup rfl (pgs_cons (pg_name (i := 1) scWin.nd rfl (.inl rfl)) (pgs_cons (pg_name (i := 2) scWin.nd rfl (.inl rfl)) pgs_nil))))
      (pss_one (ps_ret (pe_or (pe_cmp (pc_isN (pv 2))) (pe_one (pe_and (pcall DV hr (pa_cons (pv 2) pa_nil)) (pe_one (pe_cmpR op_ge (pv 2) (pv 1) (nomark _))))))))), ?_⟩
    refine ⟨_, rfl, .ref a, .ty "tuple", .type "tuple", .type "tuple", true, rfl, .ty _, .base (.tup ea), kit_ty (by decide +kernel), true, rfl, iteF ?_⟩
    refine ⟨_, rfl, a, _, rfl, .inr (SqT.of ea), rfl, _, rfl, iteNS rfl ?_⟩
    refine ⟨_, rfl, a, _, 0, .int lo, rfl, rfl, SqT.of ea, atI_nat (j := 0) rfl, lo, rfl, _, rfl, ?_⟩
    have h0' : 0 ≤ lo := h0
    rw [decide_eq_true h0']
    refine iteF ⟨_, rfl, a, _, rfl, SqT.of ea, rfl, .int lo, [hv hi], rfl, hv hi, [], rfl, rfl, _, rfl, ?_⟩
    cases hi with
    | none => exact ⟨_, rfl, iteT q⟩
    | some b =>
      have hb : lo ≤ b := (h2 b rfl).1
      have hb0 : 0 ≤ b := by omega
      refine ⟨false, rfl, iteF ⟨_, rfl, b, rfl, _, rfl, ?_⟩⟩
      rw [decide_eq_true hb0]
      refine iteT ⟨_, rfl, _, rfl, b, lo, rfl, rfl, ?_⟩
      show Q (.bl (decide (lo ≤ b))) H
      rw [decide_eq_true hb]
      exact q
theorem ok_reqW {f fW : Addr} {fd fdW : FuncData} (F : Fun K "require_window" "require_window" sReqW f fd) (DW : Dn P w K mg base 3 "is_window" ["value"] spWin fW fdW) : FnOk P w K mg base CX0 4 f fd ["value"] spReqW := by
  refine F.ok scReqW (fun vs H Q E h => ?_) (fun cdv A outer s H vs Q E hr h => ?_)
  · obtain ⟨v, p, M, rfl, _⟩ := h
    rfl
  · obtain ⟨v, p, M, rfl, wa, wo, q⟩ := h
    refine ⟨_, pss_one (ps_if (pt_not (pt_val (pcall DW hr (pa_cons (pv 0) pa_nil)))) (pss_one ps_never) pss_nil), ?_⟩
    exact ⟨_, rfl, v, p, M, rfl, wa, wo, true, rfl, iteF q⟩
theorem ok_reqL {f fW : Addr} {fd fdW : FuncData} (F : Fun K "require_windows" "require_windows" sReqL f fd) (B : Blt mg) (DW : Dn P w K mg base 3 "is_window" ["value"] spWin fW fdW) : FnOk P w K mg base CX0 4 f fd ["value"] spReqL := by
  refine F.ok scReqL (fun vs H Q E h => ?_) (fun cdv A outer s H vs Q E hr h => ?_)
  · obtain ⟨a, us, ps, M, rfl, _⟩ := h
    rfl
  · obtain ⟨a, us, ps, M, rfl, ea, ws, ok, q⟩ := h
    refine ⟨_, pss_cons (ps_if (pt_not (pt_val (pbB call_isi B.isi boot_isinstance (pa_cons (pv 0) (pa_cons (pe_bltn (by rfl) B.lst bL (v := .ty "list") rfl) pa_nil))))) (pss_one ps_never) pss_nil)
      (pss_one (ps_for PassesOwn.never rfl (pi_enum (by rfl) B.enum (pa_cons (pv 0) pa_nil)) (pg_tup rfl (pgs_cons (pg_name (i := 1) scReqL.nd rfl (.inl rfl)) (pgs_cons (pg_name (i := 2) scReqL.nd rfl (.inl rfl)) pgs_nil)))
        (pss_one (ps_if (pt_not (pt_val (pcall DW hr (pa_cons (pv 2) pa_nil)))) (pss_one ps_never) pss_nil)))), ?_⟩
    refine ⟨_, rfl, .ref a, .ty "list", .type "list", .type "list", true, rfl, .ty _, .base (.lst ea), kit_ty (by decide +kernel), true, rfl, iteF ?_⟩
    refine ⟨_, rfl, a, us, rfl, SqL.of ea, ?_⟩
    refine for_it walk_enum (fun i σ H' => (∃ y1 y2, σ = [some (.ref a), y1, y2]) ∧ Same H H') ⟨⟨none, none, rfl⟩, Same.refl H⟩ (fun i σ H' _ h => SqL.of (h.2 a _ ea)) (fun i x σ H1 H2 hi h y => ?_) fun σ H' h => q H' h.2
    obtain ⟨⟨y1, y2, rfl⟩, sm⟩ := h
    obtain ⟨T, c, v, rfl, nT, rfl, hc, hu⟩ := y
    cases hc
    have s2 : Same H (upd H1 T (.tup [.int (i : Nat), v])) := sm.trans (same_upd nT)
    obtain ⟨p, hp, wa⟩ := ws.get hu
    refine ⟨T, [.int (i : Nat), v], rfl, SqT.of upd_same, rfl, .int (i : Nat), [v], rfl, v, [], rfl, rfl, ?_⟩
    exact ⟨_, rfl, v, p, M, rfl, wa.to (Same.tups s2), ok.at' hp, true, rfl, iteF ⟨⟨_, _, rfl⟩, s2⟩⟩
theorem ok_reach {f : Addr} {fd : FuncData} {k : Nat} (F : Fun K "reaches" "reaches" sReach f fd) : FnOk P w K mg base CX0 (k + 1) f fd ["window", "version"] spReach := by
  refine F.ok scReach (fun vs H Q E h => ?_) (fun cdv A outer s H vs Q E hr h => ?_)
  · obtain ⟨v, p, n, rfl, _⟩ := h
    rfl
  · obtain ⟨v, ⟨lo, hi⟩, n, rfl, ⟨a, rfl, ea⟩, q⟩ := h
    refine ⟨_, pss_one (ps_ret (pe_or (pe_cmp (pc_isN (pe_ix ix_tup (pv 0) pe_int (fun _ _ => rfl)))) (pe_one (pe_cmpR op_ge (pe_ix ix_tup (pv 0) pe_int (fun _ _ => rfl)) (pv 1) (nomark _))))), ?_⟩
    refine ⟨_, rfl, a, _, 1, hv hi, rfl, rfl, SqT.of ea, atI_nat (j := 1) rfl, _, rfl, ?_⟩
    cases hi with
    | none => exact iteT q
    | some b => exact iteF ⟨_, rfl, a, _, 1, .int b, rfl, rfl, SqT.of ea, atI_nat (j := 1) rfl, _, rfl, b, n, rfl, rfl, q⟩
theorem ok_cont {f fW fV fR : Addr} {fd fdW fdV fdR : FuncData} (F : Fun K "contains" "contains" sCont f fd) (DW : Dn P w K mg base 4 "require_window" ["value"] spReqW fW fdW) (DV : Dn P w K mg base 3 "require_version" ["value"] spReqV fV fdV)
    (DR : Dn P w K mg base 1 "reaches" ["window", "version"] spReach fR fdR) : FnOk P w K mg base CX0 5 f fd ["window", "version"] spCont := by
  refine F.ok scCont (fun vs H Q E h => ?_) (fun cdv A outer s H vs Q E hr h => ?_)
  · obtain ⟨v, p, M, n, rfl, _⟩ := h
    rfl
  · obtain ⟨v, ⟨lo, hi⟩, M, n, rfl, wa, wo, h0, q⟩ := h
    refine ⟨_, pss_cons (ps_expr (pcall DW hr (pa_cons (pv 0) pa_nil))) (pss_cons (ps_expr (pcall DV hr (pa_cons (pv 1) pa_nil)))
      (pss_one (ps_ret (pe_and (pe_cmpR op_le (pe_ix ix_tup (pv 0) pe_int (fun _ _ => rfl)) (pv 1) (nomark _)) (pe_one (pcall DR hr (pa_cons (pv 0) (pa_cons (pv 1) pa_nil)))))))), ?_⟩
    refine ⟨_, rfl, v, _, M, rfl, wa, wo, _, rfl, n, rfl, h0, ?_⟩
    obtain ⟨a, rfl, ea⟩ := id wa
    refine ⟨_, rfl, a, _, 0, .int lo, rfl, rfl, SqT.of ea, atI_nat (j := 0) rfl, _, rfl, lo, n, rfl, rfl, _, rfl, ?_⟩
    by_cases c : lo ≤ n
    · rw [decide_eq_true c]
      refine iteT ⟨_, rfl, _, rfl, .ref a, (lo, hi), n, rfl, wa, ?_⟩
      have e : contB (lo, hi) n = reachB (lo, hi) n := by
        show (decide (lo ≤ n) && _) = _
        rw [decide_eq_true c, Bool.true_and]
      rw [← e]
      exact q
    · rw [decide_eq_false c]
      have e : contB (lo, hi) n = false := by
        show (decide (lo ≤ n) && _) = _
        rw [decide_eq_false c, Bool.false_and]
      rw [e] at q
      exact iteF q
theorem ok_rise {f fW fR : Addr} {fd fdW fdR : FuncData} (F : Fun K "rises" "rises" sRise f fd) (DW : Dn P w K mg base 4 "require_window" ["value"] spReqW fW fdW)
    (DR : Dn P w K mg base 1 "reaches" ["window", "version"] spReach fR fdR) : FnOk P w K mg base CX0 5 f fd ["first", "second"] spRise := by
  refine F.ok scRise (fun vs H Q E h => ?_) (fun cdv A outer s H vs Q E hr h => ?_)
  · obtain ⟨v, p, u, q, M, N, rfl, _⟩ := h
    rfl
  · obtain ⟨v, ⟨lo, hi⟩, u, ⟨lo2, hi2⟩, M, N, rfl, wv, wu, ov, ou, q⟩ := h
    refine ⟨_, pss_cons (ps_expr (pcall DW hr (pa_cons (pv 0) pa_nil))) (pss_cons (ps_expr (pcall DW hr (pa_cons (pv 1) pa_nil)))
      (pss_cons (ps_if (pt_cmpR op_lt (pe_ix ix_tup (pv 1) pe_int (fun _ _ => rfl)) (pe_ix ix_tup (pv 0) pe_int (fun _ _ => rfl)) (nomark _)) (pss_one (ps_ret pe_bl)) pss_nil)
      (pss_one (ps_ret (pe_ifExp (pt_cmp (pc_isN (pe_ix ix_tup (pv 0) pe_int (fun _ _ => rfl)))) (pe_cmp (pc_isN (pe_ix ix_tup (pv 1) pe_int (fun _ _ => rfl))))
        (pcall DR hr (pa_cons (pv 1) (pa_cons (pe_ix ix_tup (pv 0) pe_int (fun _ _ => rfl)) pa_nil)))))))), ?_⟩
    refine ⟨_, rfl, v, _, M, rfl, wv, ov, _, rfl, u, _, N, rfl, wu, ou, ?_⟩
    obtain ⟨a, rfl, ea⟩ := id wv
    obtain ⟨b, rfl, eb⟩ := id wu
    refine ⟨_, rfl, b, _, 0, .int lo2, rfl, rfl, SqT.of eb, atI_nat (j := 0) rfl, _, rfl, a, _, 0, .int lo, rfl, rfl, SqT.of ea, atI_nat (j := 0) rfl, lo2, lo, rfl, rfl, _, rfl, ?_⟩
    by_cases c : lo2 < lo
    · rw [decide_eq_true c]
      have e : riseB (lo, hi) (lo2, hi2) = false := if_pos c
      rw [e] at q
      exact iteT q
    · rw [decide_eq_false c]
      refine iteF ⟨_, rfl, a, _, 1, hv hi, rfl, rfl, SqT.of ea, atI_nat (j := 1) rfl, _, rfl, ?_⟩
      cases hi with
      | none =>
        have e : riseB (lo, none) (lo2, hi2) = decide (hv hi2 = .non) := if_neg c
        rw [e] at q
        exact iteT ⟨_, rfl, b, _, 1, hv hi2, rfl, rfl, SqT.of eb, atI_nat (j := 1) rfl, q⟩
      | some h =>
        have e : riseB (lo, some h) (lo2, hi2) = reachB (lo2, hi2) h := if_neg c
        rw [e] at q
        exact iteF ⟨_, rfl, _, rfl, a, _, 1, .int h, rfl, rfl, SqT.of ea, atI_nat (j := 1) rfl, .ref b, (lo2, hi2), h, rfl, wu, q⟩
end
end KP
/-! KpFall: first_falling, least_reaching. -/
namespace KP
open PySem PySem.Spec PyProof.Rows L2
/-! ### the mathematics -/
/-- the place of the first true one -/
def firstTrue : List Bool → Option Nat
  | [] => none
  | b :: r => if b = true then some 0 else (firstTrue r).map (· + 1)
theorem firstTrue_at : ∀ {bs : List Bool} {i : Nat}, bs[i]? = some true → (∀ j, j < i → bs[j]? = some false) → firstTrue bs = some i
  | [], i, h, _ => by simp at h
  | b :: r, 0, h, _ => by
    have e : b = true := by simpa using h
    show (if b = true then _ else _) = _
    rw [if_pos e]
  | b :: r, i + 1, h, hb => by
    have e : b = false := by simpa using hb 0 (Nat.succ_pos _)
    have ih := firstTrue_at (bs := r) (i := i) (by simpa using h) fun j hj => by simpa using hb (j + 1) (Nat.succ_lt_succ hj)
    show (if b = true then _ else (firstTrue r).map (· + 1)) = _
    rw [e, if_neg Bool.false_ne_true, ih]
    rfl
theorem firstTrue_none : ∀ {bs : List Bool}, (∀ j, j < bs.length → bs[j]? = some false) → firstTrue bs = none
  | [], _ => rfl
  | b :: r, hb => by
    have e : b = false := by simpa using hb 0 (Nat.succ_pos _)
    have ih := firstTrue_none (bs := r) fun j hj => by simpa using hb (j + 1) (Nat.succ_lt_succ hj)
    show (if b = true then _ else (firstTrue r).map (· + 1)) = _
    rw [e, if_neg Bool.false_ne_true, ih]
    rfl
/-- which windows fall from the one before -/
def fallL (ps : List Win) : List Bool := List.zipWith (fun p q => !riseB p q) ps (ps.drop 1)
def firstFall (ps : List Win) : Option Nat := (firstTrue (fallL ps)).map (· + 1)
theorem fallL_at {ps : List Win} {i : Nat} {p q : Win} (h1 : ps[i]? = some p) (h2 : ps[i + 1]? = some q) : (fallL ps)[i]? = some (!riseB p q) := by
  unfold fallL
  rw [List.getElem?_zipWith, h1, List.getElem?_drop, Nat.add_comm 1 i, h2]
theorem fallL_len (ps : List Win) : (fallL ps).length = ps.length - 1 := by
  unfold fallL
  rw [List.length_zipWith, List.length_drop]
  omega
theorem cut1 (xs : List V) : cutV xs (some 1) none = xs.drop 1 := by
  unfold cutV
  rw [show HT.sIx xs.length 0 (some 1) = min 1 xs.length from HT.sIx_nat xs.length 0 1, HT.sIx_none]
  cases xs with
  | nil => rfl
  | cons x r =>
    rw [show min 1 (x :: r).length = 1 by
      rw [List.length_cons]
      omega]
    show (List.take ((x :: r).length - 1) r) = r
    rw [List.length_cons, Nat.add_sub_cancel]
    exact List.take_length
section
variable {P : Program} {w : World} {K : PySem.W.Frag} {mg : Str → Option Value} {base : Heap}
def spFall : Sp := fun vs H Q _ => ∃ a us ps M, vs = [.ref a] ∧ H a = some (.lst us) ∧ Wins H us ps ∧ AllOk M ps ∧ ∀ H', Same H H' → Q (ov (firstFall ps)) H'
def spLeast : Sp := fun vs H Q _ => ∃ a us ps M n, vs = [.ref a, .int n] ∧ H a = some (.lst us) ∧ Wins H us ps ∧ AllOk M ps ∧ firstFall ps = none ∧ 0 ≤ n ∧ ∀ H', Same H H' → Q (ov (firstTrue (ps.map fun p => reachB p n))) H'
theorem ok_fall {f fL fR : Addr} {fd fdL fdR : FuncData} (F : Fun K "first_falling" "first_falling" sFall f fd) (B : Blt mg) (DL : Dn P w K mg base 4 "require_windows" ["value"] spReqL fL fdL)
    (DR : Dn P w K mg base 5 "rises" ["first", "second"] spRise fR fdR) : FnOk P w K mg base CX0 6 f fd ["windows"] spFall := by
  refine F.ok scFall (fun vs H Q E h => ?_) (fun cdv A outer s H vs Q E hr h => ?_)
  · obtain ⟨a, us, ps, M, rfl, _⟩ := h
    rfl
  · obtain ⟨a, us, ps, M, rfl, ea, ws, ok, q⟩ := h
    refine ⟨_, pss_cons (ps_expr (pcall DL hr (pa_cons (pv 0) pa_nil)))
      (pss_cons (ps_for PassesOwn.never rfl (KB.pi_ez (by rfl) B.enum (by rfl) B.zip (by decide) (by decide) (pa_cons (pv 0) (pa_cons (pe_slice sl_list (pv 0) (po_some pe_int) po_none) pa_nil)))
          (pg_tup rfl (pgs_cons (pg_name (i := 1) scFall.nd rfl (.inl rfl)) (pgs_cons (pg_tup rfl (pgs_cons (pg_name (i := 2) scFall.nd rfl (.inl rfl)) (pgs_cons (pg_name (i := 3) scFall.nd rfl (.inl rfl)) pgs_nil))) pgs_nil)))
        (pss_one (ps_if (pt_not (pt_val (pcall DR hr (pa_cons (pv 2) (pa_cons (pv 3) pa_nil))))) (pss_one (ps_ret (pv 1))) pss_nil)))
      (pss_one (ps_ret pe_non))), ?_⟩
    refine ⟨_, rfl, a, us, ps, M, rfl, ea, ws, ok, fun H1 sm1 => ?_⟩
    refine ⟨.ref a, rfl, .ref a, rfl, 1, rfl, a, us, rfl, SqL.of (sm1 _ _ ea), fun c nc => ?_⟩
    have sm2 : Same H (upd H1 c (.lst (cutV us (some 1) none))) := sm1.trans (same_upd nc)
    have ac : a ≠ c := ne_of_none (sm1 _ _ ea) nc
    refine ⟨a, c, us, _, rfl, SqL.of (sm2 _ _ ea), SqL.of upd_same, ?_⟩
    rw [cut1]
    have hlen : min us.length (us.drop 1).length = (fallL ps).length := by
      rw [fallL_len, List.length_drop, ws.len]
      omega
    refine for_it (KB.walk_ez rfl) (fun i σ H' => (∃ y1 y2 y3, σ = [some (.ref a), y1, y2, y3]) ∧ Same H H' ∧ H' c = some (.lst (us.drop 1)) ∧ ∀ j, j < i → (fallL ps)[j]? = some false)
      ⟨⟨none, none, none, rfl⟩, ?_, upd_same, fun j hj => absurd hj (Nat.not_lt_zero j)⟩ (fun i σ H' _ h => ⟨SqL.of (h.2.1 a _ ea), SqL.of h.2.2.1⟩) (fun i x σ H2 H3 hi h y => ?_) fun σ H' h => ?_
    · rw [cut1] at sm2
      exact sm2
    · obtain ⟨⟨y1, y2, y3, rfl⟩, sm, ec, no⟩ := h
      obtain ⟨T, U, x1, x2, rfl, nT, nU, UT, rfl, h1, h2⟩ := y
      rw [List.getElem?_drop, Nat.add_comm 1 i] at h2
      obtain ⟨p, hp, wp⟩ := ws.get h1
      obtain ⟨r, hr2, wr⟩ := ws.get h2
      have nU' : upd H2 T (.tup [x1, x2]) U = none := by
        rw [upd_ne UT]
        exact nU
      have smT : Same H2 (upd (upd H2 T (.tup [x1, x2])) U (.tup [.int (1 + (i : Nat)), .ref T])) := (same_upd nT).trans (same_upd nU')
      have sm3 := sm.trans smT
      refine ⟨U, _, rfl, SqT.of upd_same, rfl, .int (1 + (i : Nat)), [.ref T], rfl, .ref T, [], rfl, T, [x1, x2], rfl, SqT.of (same_upd nU' T _ upd_same), rfl, x1, [x2], rfl, x2, [], rfl, rfl, rfl, ?_⟩
      refine ⟨_, rfl, _, rfl, x1, p, x2, r, M, M, rfl, wp.to (Same.tups sm3), wr.to (Same.tups sm3), ok.at' hp, ok.at' hr2, _, rfl, ?_⟩
      have here := fallL_at hp hr2
      cases e : riseB p r with
      | true =>
        refine iteF ⟨⟨_, _, _, rfl⟩, sm3, smT _ _ ec, fun j hj => ?_⟩
        by_cases c : j < i
        · exact no j c
        · have e2 : j = i := by omega
          rw [e2, here, e]
          rfl
      | false =>
        refine iteT ⟨_, rfl, ?_⟩
        have e2 : firstFall ps = some (i + 1) := by
          unfold firstFall
          rw [firstTrue_at (i := i) (by rw [here, e]; rfl) no]
          rfl
        have q2 := q _ sm3
        rw [e2] at q2
        have e3 : (1 : Int) + (i : Nat) = ((i + 1 : Nat) : Int) := by omega
        rw [e3] at q2 ⊢
        exact q2
    · obtain ⟨_, sm, _, no⟩ := h
      rw [hlen] at no
      have e2 : firstFall ps = none := by
        unfold firstFall
        rw [firstTrue_none no]
        rfl
      have q2 := q _ sm
      rw [e2] at q2
      exact q2
theorem ok_least {f fF fV fR : Addr} {fd fdF fdV fdR : FuncData} (F : Fun K "least_reaching" "least_reaching" sLeast f fd) (B : Blt mg) (DF : Dn P w K mg base 6 "first_falling" ["windows"] spFall fF fdF)
    (DV : Dn P w K mg base 3 "require_version" ["value"] spReqV fV fdV) (DR : Dn P w K mg base 1 "reaches" ["window", "version"] spReach fR fdR) : FnOk P w K mg base CX0 7 f fd ["windows", "version"] spLeast := by
  refine F.ok scLeast (fun vs H Q E h => ?_) (fun cdv A outer s H vs Q E hr h => ?_)
  · obtain ⟨a, us, ps, M, n, rfl, _⟩ := h
    rfl
  · obtain ⟨a, us, ps, M, n, rfl, ea, ws, ok, ff, h0, q⟩ := h
    refine ⟨_, pss_cons (ps_set (i := 2) scLeast.nd rfl (.inl rfl) (pcall DF hr (pa_cons (pv 0) pa_nil)))
      (pss_cons (ps_if (pt_cmp (pc_notN (pv 2))) (pss_one ps_never) pss_nil)
      (pss_cons (ps_expr (pcall DV hr (pa_cons (pv 1) pa_nil)))
      (pss_cons (ps_for PassesOwn.never rfl (pi_enum (by rfl) B.enum (pa_cons (pv 0) pa_nil)) (pg_tup rfl (pgs_cons (pg_name (i := 3) scLeast.nd rfl (.inl rfl)) (pgs_cons (pg_name (i := 4) scLeast.nd rfl (.inl rfl)) pgs_nil)))
        (pss_one (ps_if (pt_val (pcall DR hr (pa_cons (pv 4) (pa_cons (pv 1) pa_nil)))) (pss_one (ps_ret (pv 3))) pss_nil)))
      (pss_one (ps_ret pe_non))))), ?_⟩
    refine ⟨_, rfl, a, us, ps, M, rfl, ea, ws, ok, fun H1 sm1 => ?_⟩
    rw [ff]
    refine ⟨_, rfl, _, rfl, iteF ⟨_, rfl, n, rfl, h0, ?_⟩⟩
    refine ⟨_, rfl, a, us, rfl, SqL.of (sm1 _ _ ea), ?_⟩
    refine for_it walk_enum (fun i σ H' => (∃ y1 y2, σ = [some (.ref a), some (.int n), some .non, y1, y2]) ∧ Same H H' ∧ ∀ j, j < i → (ps.map fun p => reachB p n)[j]? = some false)
      ⟨⟨none, none, rfl⟩, sm1, fun j hj => absurd hj (Nat.not_lt_zero j)⟩ (fun i σ H' _ h => SqL.of (h.2.1 a _ ea)) (fun i x σ H2 H3 hi h y => ?_) fun σ H' h => ?_
    · obtain ⟨⟨y1, y2, rfl⟩, sm, no⟩ := h
      obtain ⟨T, c, v, rfl, nT, rfl, hc, hu⟩ := y
      cases hc
      have s2 : Same H (upd H2 T (.tup [.int (i : Nat), v])) := sm.trans (same_upd nT)
      obtain ⟨p, hp, wa⟩ := ws.get hu
      refine ⟨T, [.int (i : Nat), v], rfl, SqT.of upd_same, rfl, .int (i : Nat), [v], rfl, v, [], rfl, rfl, ?_⟩
      have here : (ps.map fun p => reachB p n)[i]? = some (reachB p n) := by
        rw [List.getElem?_map, hp]
        rfl
      refine ⟨_, rfl, _, rfl, v, p, n, rfl, wa.to (Same.tups s2), _, rfl, ?_⟩
      cases e : reachB p n with
      | true =>
        refine iteT ⟨_, rfl, ?_⟩
        have q2 := q _ s2
        rw [firstTrue_at (i := i) (by rw [here, e]) no] at q2
        exact q2
      | false =>
        refine iteF ⟨⟨_, _, rfl⟩, s2, fun j hj => ?_⟩
        by_cases c : j < i
        · exact no j c
        · have e2 : j = i := by omega
          rw [e2, here, e]
    · obtain ⟨_, sm, no⟩ := h
      have q2 := q _ sm
      rw [firstTrue_none (fun j hj => no j (by rw [List.length_map] at hj; rw [ws.len]; exact hj))] at q2
      exact q2
end
end KP
/-! KpDraw: the law's numbers: _law_rng, _law_draw, _law_choice. -/
namespace KP
open PySem PySem.Spec PyProof.Rows L2
theorem at_mem {xs : List V} {d : Int} (h0 : 0 ≤ d) (h1 : d < xs.length) : ∃ x, atI xs d = some x ∧ x ∈ xs := by
  have hi : d.toNat < xs.length := by omega
  have e : d = (d.toNat : Int) := by omega
  have g : atI xs (d.toNat : Int) = some xs[d.toNat] := atI_nat (List.getElem?_eq_getElem hi)
  rw [← e] at g
  exact ⟨_, g, List.getElem_mem hi⟩
theorem Rng.to {H H' : Hp} {r : Addr} (g : Rng H r) (h : ∀ o, H r = some o → H' r = some o) : Rng H' r := by
  obtain ⟨A, B, e, k⟩ := g
  exact ⟨A, B, h _ e, k⟩
section
variable {P : Program} {w : World} {K : PySem.W.Frag} {mg : Str → Option Value} {base : Heap}
def spRng (K : PySem.W.Frag) : Sp := fun vs H Q _ => ∃ (a : Addr) (ns : List Int) (k : Int), vs = [.ref a, .int k] ∧ SqL K H a (ns.map V.int) ∧ 0 ≤ k ∧ k ≤ 1000 ∧ ∀ H' r, Same H H' → H r = none → Rng H' r → Q (.ref r) H'
def spDraw : Sp := fun vs H Q _ => ∃ r m, vs = [.ref r, .int m] ∧ 0 < m ∧ m < 1073741824 ∧ Rng H r ∧ ∀ H' d, Keep r H H' → Rng H' r → 0 ≤ d → d < m → Q (.int d) H'
def spChoice : Sp := fun vs H Q _ => ∃ r o xs, vs = [.ref r, .ref o] ∧ o ≠ r ∧ H o = some (.lst xs) ∧ 0 < xs.length ∧ xs.length ≤ 1000 ∧ Rng H r ∧ ∀ H' x, Keep r H H' → Rng H' r → x ∈ xs → Q x H'
theorem seed_ok (c k : Int) (h0 : 0 ≤ k) (h1 : k ≤ 1000) : (c % 2147483543 + 101 * k + 7).natAbs < 2 ^ 64 := by
  have a1 := Int.emod_nonneg c (show (2147483543 : Int) ≠ 0 by decide)
  have a2 := Int.emod_lt_of_pos c (show (0 : Int) < 2147483543 by decide)
  omega
theorem ok_rng {f : Addr} {fd : FuncData} (F : Fun K "_law_rng" "_law_rng" sRng f fd) (B : Blt mg) : FnOk P w K mg base CX0 1 f fd ["_law_script", "_law_k"] (spRng K) := by
  refine F.ok scRng (fun vs H Q E h => ?_) (fun cdv A outer s H vs Q E hr h => ?_)
  · obtain ⟨a, ns, k, rfl, _⟩ := h
    rfl
  · obtain ⟨a, ns, k, rfl, hS, h0, h1, q⟩ := h
    refine ⟨_, pss_cons (ps_set (i := 2) scRng.nd rfl (.inl rfl) (pe_ifExp (pt_cmpR op_lt (pv 1) (pbB call_len_seq B.len PySem.boot_len (pa_cons (pv 0) pa_nil)) (nomark _))
        (pbB call_abs B.abs boot_abs (pa_cons (pe_ix ix_list (pv 0) (pv 1) (fun _ _ => rfl)) pa_nil)) pe_int))
      (pss_one (ps_ret (pe_lst (pa_cons (pbB (call_max2 rfl) B.max boot_max (pa_cons pe_int (pa_cons (pe_op op_sub (pv 2) (pe_op op_pow pe_int pe_int)) pa_nil)))
        (pa_cons (pe_op op_add (pe_op op_mod (pe_op op_pow (pe_op op_add (pe_op op_add (pe_op op_mod (pv 2) pe_int) (pe_op op_mul pe_int (pv 1))) pe_int) pe_int) pe_int) pe_int) pa_nil))))), ?_⟩
    have fin : ∀ (x y : Int) (p : Addr), H p = none → 0 ≤ x → 0 ≤ y → y < 4294967296 → Q (.ref p) (upd H p (.lst [.int x, .int y])) := fun x y p np hx hy hy2 => q _ p (same_upd np) np ⟨x, y, upd_same, hx, hy, hy2⟩
    have sq : ∀ z : Int, 0 ≤ z % 2147483497 + 1 ∧ z % 2147483497 + 1 < 4294967296 := fun z => by
      have a1 := Int.emod_nonneg z (show (2147483497 : Int) ≠ 0 by decide)
      have a2 := Int.emod_lt_of_pos z (show (0 : Int) < 2147483497 by decide)
      omega
    have mx : ∀ z : Int, 0 ≤ (if z > 0 then z else 0) := fun z => by
      split <;> omega
    refine ⟨_, rfl, _, rfl, a, _, rfl, .inl hS, k, _, rfl, rfl, _, rfl, ite2 (fun e => ?_) (fun e => ?_)⟩
    · have hk : k < ((ns.map V.int).length : Int) := of_decide_eq_true e
      have hk2 : k.toNat < ns.length := by
        rw [List.length_map] at hk
        omega
      have ek : k = (k.toNat : Int) := by omega
      have g : atI (ns.map V.int) (k.toNat : Int) = some (.int ns[k.toNat]) := by
        apply atI_nat
        rw [List.getElem?_map]
        simp [hk2]
      rw [← ek] at g
      refine ⟨_, rfl, _, rfl, a, _, k, _, rfl, rfl, hS, g, ns[k.toNat], rfl, ?_⟩
      refine ⟨_, rfl, 10, 18, rfl, rfl, ⟨by decide, by decide, by decide⟩, _, _, rfl, rfl, _, _, rfl, _, rfl, _, 2147483543, rfl, rfl, (by show (0 : Int) < 2147483543; decide), _, rfl, 101, k, rfl, rfl, .inl ⟨by decide, by decide⟩, _, _, rfl, rfl, _, _, rfl, rfl,
        _, 2, rfl, rfl, ⟨by decide, by decide, seed_ok _ k h0 h1⟩, _, 2147483497, rfl, rfl, (by show (0 : Int) < 2147483497; decide), _, _, rfl, rfl, (by show 2 ≤ sizeLine; decide), fun p np => ?_⟩
      exact fin _ _ p np (mx _) (sq _).1 (sq _).2
    · refine ⟨_, rfl, 10, 18, rfl, rfl, ⟨by decide, by decide, by decide⟩, _, _, rfl, rfl, _, _, rfl, _, rfl, _, 2147483543, rfl, rfl, (by show (0 : Int) < 2147483543; decide), _, rfl, 101, k, rfl, rfl, .inl ⟨by decide, by decide⟩, _, _, rfl, rfl, _, _, rfl, rfl,
        _, 2, rfl, rfl, ⟨by decide, by decide, seed_ok _ k h0 h1⟩, _, 2147483497, rfl, rfl, (by show (0 : Int) < 2147483497; decide), _, _, rfl, rfl, (by show 2 ≤ sizeLine; decide), fun p np => ?_⟩
      exact fin _ _ p np (mx _) (sq _).1 (sq _).2
theorem ok_draw {f : Addr} {fd : FuncData} (F : Fun K "_law_draw" "_law_draw" sDraw f fd) (B : Blt mg) : FnOk P w K mg base CX0 1 f fd ["_law_rng_here", "_law_many"] spDraw := by
  refine F.ok scDraw (fun vs H Q E h => ?_) (fun cdv A outer s H vs Q E hr h => ?_)
  · obtain ⟨r, m, rfl, _⟩ := h
    rfl
  · obtain ⟨r, m, rfl, h0, h1, ⟨a, b, er, ha, hb, hb2⟩, q⟩ := h
    refine ⟨_, pss_cons (ps_if (pt_cmpR op_gt (pe_ix ix_list (pv 0) pe_int (fun _ _ => rfl)) pe_int (nomark _))
        (pss_cons (ps_asg (pbB call_divmod B.dm boot_divmod (pa_cons (pe_ix ix_list (pv 0) pe_int (fun _ _ => rfl)) (pa_cons (pv 1) pa_nil))) (pg_tup rfl (pgs_cons (pg_sub (pv 0) pe_int set_list) (pgs_cons (pg_name (i := 2) scDraw.nd rfl (.inl rfl)) pgs_nil))))
          (pss_one (ps_ret (pv 2)))) pss_nil)
      (pss_cons (ps_asg (pe_op op_mod (pe_op op_add (pe_op op_mul (pe_ix ix_list (pv 0) pe_int (fun _ _ => rfl)) pe_int) pe_int) pe_int) (pg_sub (pv 0) pe_int set_list))
      (pss_one (ps_ret (pe_op op_mod (pe_op op_fdiv (pe_op op_mod (pe_op op_mul (pe_ix ix_list (pv 0) pe_int (fun _ _ => rfl)) (pe_ix ix_list (pv 0) pe_int (fun _ _ => rfl))) pe_int) pe_int) (pv 1))))), ?_⟩
    have n1 := Int.emod_nonneg
    refine ⟨_, rfl, r, _, 0, .int a, rfl, rfl, SqL.of er, atI_nat (j := 0) rfl, a, 0, rfl, rfl, _, rfl, ite2 (fun e => ?_) (fun e => ?_)⟩
    · have pa : 0 < a := of_decide_eq_true e
      refine ⟨_, rfl, r, _, 0, .int a, rfl, rfl, SqL.of er, atI_nat (j := 0) rfl, _, rfl, a, m, rfl, ⟨h0, h1⟩, fun p np => ?_⟩
      have rp : r ≠ p := ne_of_none er np
      refine ⟨p, _, rfl, SqT.of upd_same, rfl, _, _, rfl, _, rfl, r, [.int a, .int b], 0, 0, rfl, rfl, ?_, rfl, _, [], rfl, rfl, _, rfl, ?_⟩
      · rw [upd_ne rp]
        exact er
      · refine q _ _ (fun c o hc hco => ?_) ⟨a / m, b, upd_same, Int.ediv_nonneg ha (Int.le_of_lt h0), hb, hb2⟩ (Int.emod_nonneg a (by omega)) (Int.emod_lt_of_pos a h0)
        rw [upd_ne hc, upd_ne (ne_of_none hco np)]
        exact hco
    · have big : CMul b 48271 := .inr ⟨by decide, by decide⟩
      refine ⟨_, rfl, r, _, 1, .int b, rfl, rfl, SqL.of er, atI_nat (j := 1) rfl, b, 48271, rfl, rfl, big, _, 10007, rfl, rfl, _, 2147483587, rfl, rfl, (by show (0 : Int) < 2147483587; decide), ?_⟩
      have c1 := Int.emod_nonneg (b * 48271 + 10007) (show (2147483587 : Int) ≠ 0 by decide)
      have c2 := Int.emod_lt_of_pos (b * 48271 + 10007) (show (0 : Int) < 2147483587 by decide)
      have sq : SqL K (upd H r (.lst [.int a, .int ((b * 48271 + 10007) % 2147483587)])) r [.int a, .int ((b * 48271 + 10007) % 2147483587)] := SqL.of upd_same
      have c3 := q (upd H r (.lst [.int a, .int ((b * 48271 + 10007) % 2147483587)]))
      refine ⟨_, rfl, r, [.int a, .int b], 1, 1, rfl, rfl, er, rfl, ?_⟩
      refine ⟨_, rfl, r, _, 1, .int ((b * 48271 + 10007) % 2147483587), rfl, rfl, sq, atI_nat (j := 1) rfl, _, rfl, r, _, 1, .int ((b * 48271 + 10007) % 2147483587), rfl, rfl, sq, atI_nat (j := 1) rfl, _, _, rfl, rfl, .inl ⟨by omega, by omega⟩, _, 2147483549, rfl, rfl, (by show (0 : Int) < 2147483549; decide),
        _, 11, rfl, rfl, ⟨by decide, by decide⟩, _, rfl, _, m, rfl, rfl, h0, ?_⟩
      exact c3 _ Keep.upd ⟨a, _, upd_same, ha, c1, by omega⟩ (Int.emod_nonneg _ (by omega)) (Int.emod_lt_of_pos _ h0)
theorem ok_choice {f fD : Addr} {fd fdD : FuncData} (F : Fun K "_law_choice" "_law_choice" sChoice f fd) (B : Blt mg) (DD : Dn P w K mg base 1 "_law_draw" ["_law_rng_here", "_law_many"] spDraw fD fdD) :
    FnOk P w K mg base CX0 2 f fd ["_law_rng_here", "_law_options"] spChoice := by
  refine F.ok scChoice (fun vs H Q E h => ?_) (fun cdv A outer s H vs Q E hr h => ?_)
  · obtain ⟨r, o, xs, rfl, _⟩ := h
    rfl
  · obtain ⟨r, o, xs, rfl, hne, eo, hpos, hlen, g, q⟩ := h
    refine ⟨_, pss_one (ps_ret (pe_ix ix_list (pv 1) (pcall DD hr (pa_cons (pv 0) (pa_cons (pbB call_len_seq B.len PySem.boot_len (pa_cons (pv 1) pa_nil)) pa_nil))) (fun _ _ => rfl))), ?_⟩
    refine ⟨_, rfl, _, rfl, _, rfl, o, xs, rfl, .inl (SqL.of eo), r, (xs.length : Int), rfl, by omega, by omega, g, fun H1 d kp g1 d0 d1 => ?_⟩
    obtain ⟨x, hx, hm⟩ := at_mem d0 d1
    exact ⟨o, xs, d, x, rfl, rfl, SqL.of (kp o _ hne eo), hx, q H1 x kp g1 hm⟩
end
end KP
/-! KpMake: _law_windows. -/
namespace KP
open PySem PySem.Spec PyProof.Rows L2
/-- what stands at F goes its own way, what stands at r too; both are new to H or named -/
theorem Keep.new {r F : Addr} {H H1 : Hp} {o : HO} (k : Keep r H H1) (n : H F = none) : Keep r H (L2.upd H1 F o) := fun b x hb h => by
  rw [upd_ne (ne_of_none h n)]
  exact k b x hb h
theorem Rng.ne_lst {H : Hp} {r p : Addr} (g : Rng H r) (n : H p = none) : r ≠ p := by
  obtain ⟨A, B, e, _⟩ := g
  exact ne_of_none e n
theorem Rng.new {H : Hp} {r p : Addr} {o : HO} (g : Rng H r) (n : r ≠ p) : Rng (upd H p o) r := g.to fun x h => by
  rw [upd_ne n]
  exact h
theorem hv_non {o : Option Int} : hv o = .non → o = none := fun h => by
  cases o with
  | none => rfl
  | some x => cases h
section
variable {P : Program} {w : World} {K : PySem.W.Frag} {mg : Str → Option Value} {base : Heap}
def spMake : Sp := fun vs H Q _ => ∃ (r : Addr) (m l : Int), vs = [.ref r, .int m, .int l] ∧ 0 ≤ m ∧ m ≤ 41 ∧ 0 ≤ l ∧ l ≤ 1 ∧ Rng H r ∧
  ∀ H' p us ps, Keep r H H' → Rng H' r → H p = none → p ≠ r → H' p = some (.lst us) → Wins H' us ps → AllOk 1000 ps → us.length ≤ 41 → Q (.ref p) H'
theorem ok_make {f fD : Addr} {fd fdD : FuncData} (F : Fun K "_law_windows" "_law_windows" sMake f fd) (B : Blt mg) (DD : Dn P w K mg base 1 "_law_draw" ["_law_rng_here", "_law_many"] spDraw fD fdD) :
    FnOk P w K mg base CX0 2 f fd ["_law_rng_here", "_law_many", "_law_loose"] spMake := by
  refine F.ok scMake (fun vs H Q E h => ?_) (fun cdv A outer s H vs Q E hr h => ?_)
  · obtain ⟨r, m, l, rfl, _⟩ := h
    rfl
  · obtain ⟨r, m, l, rfl, m0, m1, l0, l1, g0, q⟩ := h
    refine ⟨_, pss_cons (ps_par3 (i := 3) (j := 4) (l := 5) rfl scMake.nd rfl rfl rfl (by decide) (by decide) (by decide) rfl rfl rfl
        (pa_cons pe_int (pa_cons (pe_ix ix_list (pe_lst (pa_cons (pv 2) (pa_cons pe_int (pa_cons pe_int (pa_cons pe_non pa_nil))))) (pcall DD hr (pa_cons (pv 0) (pa_cons pe_int pa_nil))) (fun _ _ => rfl)) (pa_cons (pe_lst pa_nil) pa_nil))) (by rfl))
      (pss_cons (ps_for PassesOwn.never rfl (pi_range1 (by rfl) B.rng (pa_cons (pv 1) pa_nil)) (pg_name (i := 6) scMake.nd rfl (.inl rfl))
        (pss_cons (ps_expr (pe_bm PySem.F.plainAttrs_list PySem.F.slot_list_append PySem.F.type_list_append mt_append (pv 5) (pa_cons (pe_tup (pa_cons (pv 3) (pa_cons (pv 4) pa_nil))) pa_nil)))
        (pss_cons (ps_set (i := 3) scMake.nd rfl (.inl rfl) (pe_op op_add (pv 3) (pe_ix ix_list (pe_lst (pa_cons pe_int (pa_cons pe_int (pa_cons (pe_op op_sub pe_int (pv 2)) (pa_cons pe_int (pa_cons (pe_op op_sub pe_int (pv 2)) pa_nil))))))
          (pcall DD hr (pa_cons (pv 0) (pa_cons pe_int pa_nil))) (fun _ _ => rfl))))
        (pss_one (ps_if (pt_cmp (pc_notN (pv 4)))
          (pss_cons (ps_set (i := 4) scMake.nd rfl (.inl rfl) (pbB (call_max2 rfl) B.max boot_max (pa_cons (pe_op op_add (pv 3) (pv 2)) (pa_cons (pe_op op_add (pv 4)
              (pe_ix ix_list (pe_lst (pa_cons (pv 2) (pa_cons pe_int (pa_cons pe_int (pa_cons pe_int pa_nil))))) (pcall DD hr (pa_cons (pv 0) (pa_cons pe_int pa_nil))) (fun _ _ => rfl))) pa_nil))))
            (pss_one (ps_set (i := 4) scMake.nd rfl (.inl rfl) (pe_ifExp (pt_cmpR op_eq (pcall DD hr (pa_cons (pv 0) (pa_cons pe_int pa_nil))) pe_int (nomark _)) pe_non (pv 4)))))
          pss_nil)))))
      (pss_one (ps_ret (pv 5)))), ?_⟩
    -- low, high, found
    refine ⟨_, rfl, (by show 4 ≤ sizeLine; decide), fun a1 n1 => ?_⟩
    have g1 : Rng (upd H a1 (.lst [.int l, .int 1, .int 2, .non])) r := g0.new (g0.ne_lst n1)
    refine ⟨_, rfl, r, 4, rfl, by decide, by decide, g1, fun H2 d k2 g2 d0 d1 => ?_⟩
    have e2 : H2 a1 = some (.lst [.int l, .int 1, .int 2, .non]) := k2 _ _ (g0.ne_lst n1).symm upd_same
    obtain ⟨x, hx, xm⟩ := at_mem (xs := [V.int l, .int 1, .int 2, .non]) d0 (by show d < ((4 : Nat) : Int); omega)
    have hi0 : ∃ hi : Option Int, x = hv hi ∧ ∀ h, hi = some h → l ≤ h ∧ h ≤ 2 := by
      simp only [List.mem_cons, List.not_mem_nil, or_false] at xm
      rcases xm with e | e | e | e <;> subst e
      · exact ⟨some l, rfl, fun h e => by cases e; omega⟩
      · exact ⟨some 1, rfl, fun h e => by cases e; omega⟩
      · exact ⟨some 2, rfl, fun h e => by cases e; omega⟩
      · exact ⟨none, rfl, fun h e => nomatch e⟩
    obtain ⟨hi, rfl, hb⟩ := hi0
    refine ⟨a1, _, d, hv hi, rfl, rfl, SqL.of e2, hx, (by show 0 ≤ sizeLine; exact Nat.zero_le _), fun F1 nF => ⟨_, _, _, rfl, ?_⟩⟩
    have kH2 : Keep r H H2 := fun b o hb h => k2 b o hb (same_upd n1 b o h)
    have nFH : H F1 = none := by
      cases e : H F1 with
      | none => rfl
      | some o =>
        by_cases c : F1 = r
        · rw [c] at nF
          obtain ⟨A1, B1, z, _⟩ := g2
          rw [nF] at z
          cases z
        · rw [kH2 _ _ c e] at nF
          cases nF
    have rF : r ≠ F1 := g2.ne_lst nF
    -- the loop
    refine ⟨_, rfl, m, rfl, by omega, by omega, ?_⟩
    refine for_range (n := m.toNat) (fun i σ H' => ∃ lo hi y6 us ps, σ = [some (.ref r), some (.int m), some (.int l), some (.int lo), some (hv hi), some (.ref F1), y6] ∧ Keep r H H' ∧ Rng H' r ∧ H' F1 = some (.lst us) ∧ Wins H' us ps ∧ us.length = i ∧ AllOk 1000 ps ∧
        0 ≤ lo ∧ lo ≤ 2 * i ∧ ∀ h, hi = some h → lo + l ≤ h ∧ h ≤ 2 * i + 3)
      ⟨0, hi, none, [], [], rfl, kH2.new nFH, g2.new rF, upd_same, Wins.nil, rfl, (fun p hp => absurd hp List.not_mem_nil), by omega, by omega, fun h e => by have := hb h e; omega⟩ (fun i σ H3 hi3 hp => ?_) fun σ H3 hp => ?_
    · obtain ⟨lo, hi, y6, us, ps, rfl, k3, g3, e3, ws, ul, ok, lo0, lo1, hb⟩ := hp
      have im : (i : Int) < m := by omega
      have nFr : F1 ≠ r := rF.symm
      -- found.append((low, high))
      refine ⟨.ref F1, rfl, .inl ⟨rfl, us, SqL.of e3⟩, _, rfl, _, rfl, (by show 2 ≤ sizeLine; decide), fun T nT => ?_⟩
      have FT : F1 ≠ T := ne_of_none e3 nT
      refine ⟨F1, us, .ref T, rfl, rfl, (by rw [upd_ne FT]; exact e3), small1000 (by omega), ?_⟩
      have tT : Tups H3 (upd (upd H3 T (.tup [.int lo, hv hi])) F1 (.lst (us ++ [.ref T]))) := fun b xs h => by
        rw [upd_ne (ne_of h e3 (by intro z; cases z)), upd_ne (ne_of_none h nT)]
        exact h
      have w4 : Wins (upd (upd H3 T (.tup [.int lo, hv hi])) F1 (.lst (us ++ [.ref T]))) (us ++ [.ref T]) (ps ++ [(lo, hi)]) := (ws.to tT).push ⟨T, rfl, by rw [upd_ne FT.symm, upd_same]; rfl⟩
      have ok4 : AllOk 1000 (ps ++ [(lo, hi)]) := ok.push ⟨lo0, (by show lo ≤ 1000; omega), fun h e => by have := hb h e; show lo ≤ h ∧ _; omega⟩
      have nTH : H T = none := by
        cases e : H T with
        | none => rfl
        | some o =>
          by_cases c : T = r
          · rw [c] at nT
            obtain ⟨A1, B1, z, _⟩ := g3
            rw [nT] at z
            cases z
          · rw [k3 _ _ c e] at nT
            cases nT
      have k4 : Keep r H (upd (upd H3 T (.tup [.int lo, hv hi])) F1 (.lst (us ++ [.ref T]))) := (k3.new nTH).new nFH
      have g4 : Rng (upd (upd H3 T (.tup [.int lo, hv hi])) F1 (.lst (us ++ [.ref T]))) r := (g3.new (g3.ne_lst nT)).new rF
      have e4 : upd (upd H3 T (.tup [.int lo, hv hi])) F1 (.lst (us ++ [.ref T])) F1 = some (.lst (us ++ [.ref T])) := upd_same
      generalize upd (upd H3 T (.tup [.int lo, hv hi])) F1 (.lst (us ++ [.ref T])) = H4 at w4 k4 g4 e4
      clear tT ws e3 g3 k3 nT ok
      -- low = low + [..][..]
      refine ⟨_, rfl, _, rfl, 1, l, rfl, rfl, _, rfl, 2, l, rfl, rfl, (by show 5 ≤ sizeLine; decide), fun a2 n2 => ?_⟩
      refine ⟨_, rfl, r, 5, rfl, by decide, by decide, g4.new (g4.ne_lst n2), fun H5 d5 k5 g5 c0 c1 => ?_⟩
      have e5 : H5 a2 = some (.lst [.int 0, .int 0, .int (1 - l), .int 1, .int (2 - l)]) := k5 _ _ (g4.ne_lst n2).symm upd_same
      obtain ⟨x, hx, xm⟩ := at_mem (xs := [V.int 0, .int 0, .int (1 - l), .int 1, .int (2 - l)]) c0 (by show d5 < ((5 : Nat) : Int); omega)
      have st0 : ∃ s5 : Int, x = .int s5 ∧ 0 ≤ s5 ∧ s5 ≤ 2 := by
        simp only [List.mem_cons, List.not_mem_nil, or_false] at xm
        rcases xm with e | e | e | e | e <;> exact ⟨_, e, by omega, by omega⟩
      obtain ⟨s5, rfl, s50, s51⟩ := st0
      have F2 : F1 ≠ a2 := ne_of_none e4 n2
      have k45 : Keep r H4 H5 := fun b o hb h => k5 b o hb (same_upd n2 b o h)
      have e5F := k45 _ _ nFr e4
      have k6 : Keep r H H5 := k4.trans k45
      have w6 := w4.to (k45.tups g4)
      refine ⟨a2, _, d5, .int s5, rfl, rfl, SqL.of e5, hx, lo, s5, rfl, rfl, ?_⟩
      clear hx e5 k5 k4 g4 w4 e4 k45
      -- if high is not None
      have fin : ∀ (hi' : Option Int) (H7 : Hp), Keep r H5 H7 → Rng H7 r → (∀ h, hi' = some h → lo + s5 + l ≤ h ∧ h ≤ 2 * ((i + 1 : Nat) : Int) + 3) →
          ∃ lo2 hi2 y6 us ps, [some (V.ref r), some (.int m), some (.int l), some (.int (lo + s5)), some (hv hi'), some (.ref F1), some (.int (0 + (i : Nat)))] = [some (.ref r), some (.int m), some (.int l), some (.int lo2), some (hv hi2), some (.ref F1), y6] ∧ Keep r H H7 ∧ Rng H7 r ∧
            H7 F1 = some (.lst us) ∧ Wins H7 us ps ∧ us.length = i + 1 ∧ AllOk 1000 ps ∧ 0 ≤ lo2 ∧ lo2 ≤ 2 * ((i + 1 : Nat) : Int) ∧ ∀ h, hi2 = some h → lo2 + l ≤ h ∧ h ≤ 2 * ((i + 1 : Nat) : Int) + 3 := fun hi' H7 k7 g7 hb7 =>
        ⟨lo + s5, hi', _, us ++ [.ref T], ps ++ [(lo, hi)], rfl, k6.trans k7, g7, k7 _ _ nFr e5F, w6.to (k7.tups g5), by rw [List.length_append, ul]; rfl, ok4, by omega, by omega, hb7⟩
      refine ⟨_, rfl, _, rfl, ?_⟩
      cases hi with
      | none => exact iteF (fin none H5 (Keep.refl r H5) g5 fun h e => nomatch e)
      | some h0 =>
        have hb0 := hb h0 rfl
        refine iteT ⟨_, rfl, _, rfl, lo + s5, l, rfl, rfl, _, rfl, _, rfl, (by show 4 ≤ sizeLine; decide), fun a3 n3 => ?_⟩
        refine ⟨_, rfl, r, 4, rfl, by decide, by decide, g5.new (g5.ne_lst n3), fun H6 d6 k6' g6 b0 b1 => ?_⟩
        have e6 : H6 a3 = some (.lst [.int l, .int 1, .int 1, .int 2]) := k6' _ _ (g5.ne_lst n3).symm upd_same
        obtain ⟨x, hx, xm⟩ := at_mem (xs := [V.int l, .int 1, .int 1, .int 2]) b0 (by show d6 < ((4 : Nat) : Int); omega)
        have st1 : ∃ s6 : Int, x = .int s6 ∧ 0 ≤ s6 ∧ s6 ≤ 2 := by
          simp only [List.mem_cons, List.not_mem_nil, or_false] at xm
          rcases xm with e | e | e | e <;> exact ⟨_, e, by omega, by omega⟩
        obtain ⟨s6, rfl, s60, s61⟩ := st1
        have k56 : Keep r H5 H6 := fun b o hb h => k6' b o hb (same_upd n3 b o h)
        refine ⟨a3, _, d6, .int s6, rfl, rfl, SqL.of e6, hx, h0, s6, rfl, rfl, _, _, rfl, ?_⟩
        clear hx e6
        have mx : lo + s5 + l ≤ (if h0 + s6 > lo + s5 + l then h0 + s6 else lo + s5 + l) ∧ (if h0 + s6 > lo + s5 + l then h0 + s6 else lo + s5 + l) ≤ 2 * ((i + 1 : Nat) : Int) + 3 := by
          split <;> omega
        refine ⟨_, rfl, r, 8, rfl, by decide, by decide, g6, fun H7 d7 k7 g7 f0 f1 => ⟨rfl, _, rfl, ite2 (fun _ => ?_) (fun _ => ⟨_, rfl, ?_⟩)⟩⟩
        · exact fin none H7 (k56.trans k7) g7 fun h e => nomatch e
        · exact fin (some _) H7 (k56.trans k7) g7 fun h e => by
            cases e
            exact mx
    · obtain ⟨lo, hi, y6, us, ps, rfl, k3, g3, e3, ws, ul, ok, _⟩ := hp
      exact ⟨_, rfl, q H3 F1 us ps k3 g3 nFH rF.symm e3 ws ok (by omega)⟩
end
end KP
/-! KpFirst: _law_top, _law_falls, _law_first, _law_moved, _law_replaced. -/
namespace KP
open PySem PySem.Spec PyProof.Rows L2
theorem Keep.back {r p : Addr} {H H' : Hp} (k : Keep r H H') (g : Rng H' r) (n : H' p = none) : H p = none := by
  cases e : H p with
  | none => rfl
  | some o =>
    by_cases c : p = r
    · rw [c] at n
      obtain ⟨A1, B1, z, _⟩ := g
      rw [n] at z
      cases z
    · rw [k p o c e] at n
      cases n
/-! ### the mathematics -/
def topI (p : Win) : Int := match p.2 with
  | none => 10 ^ 64
  | some h => h
def fallsB (p q : Win) : Bool := decide (q.1 < p.1) || decide (topI q < topI p)
def hits (bs : List Bool) (i : Nat) : List Nat := (List.range i).filter fun j => bs[j]? == some true
theorem hits_succ (bs : List Bool) (i : Nat) : hits bs (i + 1) = if bs[i]? == some true then hits bs i ++ [i] else hits bs i := by
  unfold hits
  rw [List.range_succ, List.filter_append]
  by_cases c : (bs[i]? == some true) = true
  · rw [if_pos c]
    simp [List.filter_cons, c]
  · rw [if_neg c]
    simp [List.filter_cons, c]
theorem hits_len (bs : List Bool) (i : Nat) : (hits bs i).length ≤ i := by
  unfold hits
  have := List.length_filter_le (fun j => bs[j]? == some true) (List.range i)
  rw [List.length_range] at this
  exact this
theorem hits_head (bs : List Bool) : ((hits bs bs.length).map (fun n => V.int (n : Nat)) ++ [V.non])[0]? = some (ov (firstTrue bs)) := by
  have hh : (hits bs bs.length).head? = firstTrue bs := by
    unfold hits
    rw [List.head?_filter]
    cases e : (List.range bs.length).find? (fun j => bs[j]? == some true) with
    | none =>
      rw [List.find?_eq_none] at e
      refine (firstTrue_none fun j hj => ?_).symm
      have h1 := e j (List.mem_range.mpr hj)
      rw [List.getElem?_eq_getElem hj] at h1 ⊢
      cases c : bs[j] with
      | false => rfl
      | true =>
        rw [c] at h1
        exact absurd rfl h1
    | some i =>
      rw [List.find?_range_eq_some] at e
      obtain ⟨h1, h2, h3⟩ := e
      refine (firstTrue_at (by simpa using h1) fun j hj => ?_).symm
      have hjl : j < bs.length := Nat.lt_trans hj (List.mem_range.mp h2)
      have h4 := h3 j hj
      rw [List.getElem?_eq_getElem hjl] at h4 ⊢
      cases c : bs[j] with
      | false => rfl
      | true =>
        rw [c] at h4
        exact absurd h4 (by decide)
  cases e : hits bs bs.length with
  | nil =>
    rw [e] at hh
    rw [← hh]
    rfl
  | cons n r =>
    rw [e] at hh
    rw [← hh]
    rfl
section
variable {P : Program} {w : World} {K : PySem.W.Frag} {mg : Str → Option Value} {base : Heap}
def spTop : Sp := fun vs H Q _ => ∃ v p, vs = [v] ∧ WinAt H v p ∧ Q (.int (topI p)) H
def spFalls : Sp := fun vs H Q _ => ∃ v p u q, vs = [v, u] ∧ WinAt H v p ∧ WinAt H u q ∧ Q (.bl (fallsB p q)) H
def spFirst : Sp := fun vs H Q _ => ∃ (a : Addr) (bs : List Bool), vs = [.ref a] ∧ H a = some (.lst (bs.map V.bl)) ∧ bs.length ≤ 900 ∧ ∀ H', Same H H' → Q (ov (firstTrue bs)) H'
theorem ok_top {f : Addr} {fd : FuncData} (F : Fun K "_law_top" "_law_top" sTop f fd) : FnOk P w K mg base CX0 1 f fd ["_law_one"] spTop := by
  refine F.ok scTop (fun vs H Q E h => ?_) (fun cdv A outer s H vs Q E hr h => ?_)
  · obtain ⟨v, p, rfl, _⟩ := h
    rfl
  · obtain ⟨v, ⟨lo, hi⟩, rfl, ⟨a, rfl, ea⟩, q⟩ := h
    refine ⟨_, pss_one (ps_ret (pe_ifExp (pt_cmp (pc_isN (pe_ix ix_tup (pv 0) pe_int (fun _ _ => rfl)))) (pe_op op_pow pe_int pe_int) (pe_ix ix_tup (pv 0) pe_int (fun _ _ => rfl)))), ?_⟩
    refine ⟨_, rfl, a, _, 1, hv hi, rfl, rfl, SqT.of ea, atI_nat (j := 1) rfl, _, rfl, ?_⟩
    cases hi with
    | none => exact iteT ⟨10, 64, rfl, rfl, ⟨by decide, by decide, by decide⟩, q⟩
    | some h => exact iteF ⟨_, rfl, a, _, 1, .int h, rfl, rfl, SqT.of ea, atI_nat (j := 1) rfl, q⟩
theorem ok_falls {f fT : Addr} {fd fdT : FuncData} (F : Fun K "_law_falls" "_law_falls" sFalls f fd) (DT : Dn P w K mg base 1 "_law_top" ["_law_one"] spTop fT fdT) : FnOk P w K mg base CX0 2 f fd ["_law_one", "_law_other"] spFalls := by
  refine F.ok scFalls (fun vs H Q E h => ?_) (fun cdv A outer s H vs Q E hr h => ?_)
  · obtain ⟨v, p, u, q, rfl, _⟩ := h
    rfl
  · obtain ⟨v, ⟨lo, hi⟩, u, ⟨lo2, hi2⟩, rfl, wv, wu, q⟩ := h
    refine ⟨_, pss_one (ps_ret (pe_or (pe_cmpR op_lt (pe_ix ix_tup (pv 1) pe_int (fun _ _ => rfl)) (pe_ix ix_tup (pv 0) pe_int (fun _ _ => rfl)) (nomark _))
      (pe_one (pe_cmpR op_lt (pcall DT hr (pa_cons (pv 1) pa_nil)) (pcall DT hr (pa_cons (pv 0) pa_nil)) (nomark _))))), ?_⟩
    obtain ⟨a, rfl, ea⟩ := id wv
    obtain ⟨b, rfl, eb⟩ := id wu
    refine ⟨_, rfl, b, _, 0, .int lo2, rfl, rfl, SqT.of eb, atI_nat (j := 0) rfl, _, rfl, a, _, 0, .int lo, rfl, rfl, SqT.of ea, atI_nat (j := 0) rfl, lo2, lo, rfl, rfl, _, rfl, ?_⟩
    by_cases c : lo2 < lo
    · rw [decide_eq_true c]
      have e : fallsB (lo, hi) (lo2, hi2) = true := by
        show (decide (lo2 < lo) || _) = _
        rw [decide_eq_true c, Bool.true_or]
      rw [e] at q
      exact iteT q
    · rw [decide_eq_false c]
      have e : fallsB (lo, hi) (lo2, hi2) = decide (topI (lo2, hi2) < topI (lo, hi)) := by
        show (decide (lo2 < lo) || _) = _
        rw [decide_eq_false c, Bool.false_or]
      rw [e] at q
      exact iteF ⟨_, rfl, .ref b, (lo2, hi2), rfl, wu, _, rfl, .ref a, (lo, hi), rfl, wv, _, _, rfl, rfl, q⟩
theorem ok_first {f : Addr} {fd : FuncData} {k : Nat} (F : Fun K "_law_first" "_law_first" sFirst f fd) (B : Blt mg) : FnOk P w K mg base CX0 (k + 1) f fd ["_law_flags"] spFirst := by
  refine F.ok scFirst (fun vs H Q E h => ?_) (fun cdv A outer s H vs Q E hr h => ?_)
  · obtain ⟨a, bs, rfl, _⟩ := h
    rfl
  · obtain ⟨a, bs, rfl, ea, hl, q⟩ := h
    refine ⟨_, pss_one (ps_ret (pe_ix ix_list (pe_op op_cat
        (pe_lc (own := [("_law_k", 1), ("_law_flag", 2)]) (g := gTup K 2 (gCons (gName 1) (gCons (gName 2) gNil))) (tt := tB (tVar 2)) (te := tVar 1) rfl scFirst.nd (pi_enum (by rfl) B.enum (pa_cons (pv 0) pa_nil)) (blkOk_by (N := ["_law_flags", "_law_k", "_law_flag"]) (sc := defScope sFirst) (by decide +kernel))
          (fun _ _ _ _ _ => pg_tup rfl (pgs_cons (pg_name (i := 1) scFirst.nd rfl (Or.inl rfl)) (pgs_cons (pg_name (i := 2) scFirst.nd rfl (Or.inl rfl)) pgs_nil))) (fun _ _ _ _ _ => pts_one (pt_val (pv 2))) (fun _ _ _ _ _ => pv 1))
        (pe_lst (pa_cons pe_non pa_nil))) pe_int (fun _ _ => rfl))), ?_⟩
    refine ⟨_, rfl, a, bs.map V.bl, rfl, SqL.of ea, fun D nD => ?_⟩
    have aD : a ≠ D := ne_of_none ea nD
    refine lc_it walk_enum (fun i H' => Same H H' ∧ H' D = some (.lst ((hits bs i).map fun n => V.int (n : Nat)))) ⟨same_upd nD, upd_same⟩ (fun i H' _ h => SqL.of (h.1 a _ ea)) (fun i x H1 H2 hi h y => ?_) fun H1 h => ?_
    · obtain ⟨sm, eD⟩ := h
      obtain ⟨T, c, v, rfl, nT, rfl, hc, hu⟩ := y
      cases hc
      have s2 : Same H (upd H1 T (.tup [.int (i : Nat), v])) := sm.trans (same_upd nT)
      have eD2 : upd H1 T (.tup [.int (i : Nat), v]) D = some (.lst ((hits bs i).map fun n => V.int (n : Nat))) := same_upd nT _ _ eD
      have hu' : (bs.map V.bl)[i]? = some v := hu
      clear hu
      rename (bs.map V.bl)[i]? = some v => hu
      rw [List.getElem?_map] at hu
      cases hb : bs[i]? with
      | none =>
        rw [hb] at hu
        cases hu
      | some b =>
        rw [hb] at hu
        cases hu
        refine ⟨T, [.int (i : Nat), .bl b], rfl, SqT.of upd_same, rfl, .int (i : Nat), [.bl b], rfl, .bl b, [], rfl, rfl, rfl, _, rfl, b, rfl, ?_⟩
        have hs := hits_succ bs i
        cases b with
        | true =>
          rw [hb] at hs
          refine iteT ⟨_, rfl, _, eD2, ?_, fun c o hc => ?_, ?_⟩
          · rw [List.length_map]
            have := hits_len bs i
            rw [List.length_map] at hi
            exact small1000 (by omega)
          · rw [upd_ne (ne_of_none hc nD)]
            exact s2 c o hc
          · rw [upd_same, hs]
            simp
        | false =>
          rw [hb] at hs
          refine iteF ⟨s2, ?_⟩
          rw [hs]
          exact eD2
    · obtain ⟨sm, eD⟩ := h
      rw [List.length_map] at eD
      refine ⟨(by show 1 ≤ sizeLine; decide), fun p np => ?_⟩
      have Dp : D ≠ p := ne_of_none eD np
      refine ⟨D, p, _, [.non], rfl, rfl, (by rw [upd_ne Dp]; exact eD), upd_same, ?_, fun p2 np2 => ?_⟩
      · rw [List.length_map]
        have := hits_len bs bs.length
        exact small (by show _ + 1 ≤ 1000; omega)
      · exact ⟨p2, _, 0, _, rfl, rfl, SqL.of upd_same, atI_nat (j := 0) (hits_head bs), q _ ((sm.trans (same_upd np)).trans (same_upd np2))⟩
end
end KP
/-! KpData: windows, bools, places as data that == and repr read. -/
namespace KP
open PySem PySem.Spec PyProof.Rows L2
def dO : Option Int → PyData
  | none => .none
  | some h => .int h
def dW (p : Win) : PyData := .tuple [.int p.1, dO p.2]
def dWs (ps : List Win) : PyData := .list (ps.map dW)
def dBs (bs : List Bool) : PyData := .list (bs.map .bool)
def dN : Option Nat → PyData
  | none => .none
  | some n => .int n
theorem Wins.tl {H : Hp} {u : V} {us : List V} {p : Win} {ps : List Win} (ws : Wins H (u :: us) (p :: ps)) : WinAt H u p ∧ Wins H us ps :=
  ⟨ws.at' 0 u p rfl rfl, ⟨Nat.succ.inj ws.len, fun i v q h1 h2 => ws.at' (i + 1) v q (by simpa using h1) (by simpa using h2)⟩⟩
theorem dp_o {K : PySem.W.Frag} {H : Hp} (o : Option Int) : Dp K H (hv o) (dO o) := by
  cases o with
  | none => exact .non
  | some h => exact .int h
theorem dp_n {K : PySem.W.Frag} {H : Hp} (o : Option Nat) : Dp K H (ov o) (dN o) := by
  cases o with
  | none => exact .non
  | some n => exact .int n
theorem dp_win {K : PySem.W.Frag} {H : Hp} {v : V} {p : Win} (w : WinAt H v p) : Dp K H v (dW p) := by
  obtain ⟨a, rfl, ea⟩ := w
  exact .tup (SqT.of ea) (.cons (.int p.1) (.cons (dp_o p.2) .nil))
theorem dp_all {K : PySem.W.Frag} {H : Hp} : ∀ {us : List V} {ps : List Win}, Wins H us ps → DpAll K H us (ps.map dW)
  | [], [], _ => .nil
  | [], p :: ps, w => by cases w.len
  | u :: us, [], w => by cases w.len
  | u :: us, p :: ps, w => .cons (dp_win w.tl.1) (dp_all w.tl.2)
theorem dp_wins {K : PySem.W.Frag} {H : Hp} {a : Addr} {us : List V} {ps : List Win} (ws : Wins H us ps) (ea : H a = some (.lst us)) : Dp K H (.ref a) (dWs ps) := .lst (SqL.of ea) (dp_all ws)
theorem dp_bls {K : PySem.W.Frag} {H : Hp} : ∀ bs : List Bool, DpAll K H (bs.map V.bl) (bs.map PyData.bool)
  | [] => .nil
  | b :: bs => .cons (.bl b) (dp_bls bs)
theorem dp_bs {K : PySem.W.Frag} {H : Hp} {a : Addr} {bs : List Bool} (ea : H a = some (.lst (bs.map V.bl))) : Dp K H (.ref a) (dBs bs) := .lst (SqL.of ea) (dp_bls bs)
theorem lay_w (p : Win) : (dW p).canLay0 = true := by
  obtain ⟨lo, hi⟩ := p
  cases hi <;> rfl
theorem lay_ws : ∀ ps : List Win, PyData.canLayAll0 (ps.map dW) = true
  | [] => rfl
  | p :: ps => by
    rw [List.map_cons, PyData.canLayAll0, lay_w, lay_ws ps]
    rfl
theorem lay_bs : ∀ bs : List Bool, PyData.canLayAll0 (bs.map PyData.bool) = true
  | [] => rfl
  | b :: bs => by
    rw [List.map_cons, PyData.canLayAll0, lay_bs bs]
    rfl
theorem dep_w (p : Win) : (dW p).depth ≤ 3 := by
  obtain ⟨lo, hi⟩ := p
  cases hi <;> simp [dW, dO, PyData.depth, PyData.depthAll]
theorem dep_ws : ∀ ps : List Win, PyData.depthAll (ps.map dW) ≤ 3
  | [] => by decide +kernel
  | p :: ps => by
    rw [List.map_cons, PyData.depthAll]
    have := dep_w p
    have := dep_ws ps
    omega
theorem dep_bs : ∀ bs : List Bool, PyData.depthAll (bs.map PyData.bool) ≤ 3
  | [] => by decide +kernel
  | b :: bs => by
    rw [List.map_cons, PyData.depthAll, PyData.depth]
    have := dep_bs bs
    omega
theorem shaped_ws (ps : List Win) : SeqAt.shaped (dWs ps) = true := by
  unfold SeqAt.shaped dWs
  rw [PyData.canLay0, lay_ws, PyData.depth]
  have := dep_ws ps
  simp only [Bool.true_and, decide_eq_true_eq]
  omega
theorem shaped_bs (bs : List Bool) : SeqAt.shaped (dBs bs) = true := by
  unfold SeqAt.shaped dBs
  rw [PyData.canLay0, lay_bs, PyData.depth]
  have := dep_bs bs
  simp only [Bool.true_and, decide_eq_true_eq]
  omega
theorem eqv_ws (ps : List Win) : PyData.eqv (dWs ps) (dWs ps) = true := SeqAt.eqv_refl _ (SeqAt.canLay_of_shaped (shaped_ws ps))
theorem eqv_bs (bs : List Bool) : PyData.eqv (dBs bs) (dBs bs) = true := SeqAt.eqv_refl _ (SeqAt.canLay_of_shaped (shaped_bs bs))
/-- [x, x], x a small place or None -/
theorem rep_ok (o : Option Nat) (h : ∀ n, o = some n → n < 64) : (PyData.list [dN o, dN o]).showable = true ∧ (PyData.list [dN o, dN o]).hasDict = false ∧ (PyData.list [dN o, dN o]).shown.length ≤ sizeLine ∧ (PyData.list [dN o, dN o]).depth ≤ 60 := by
  cases o with
  | none => decide +kernel
  | some n =>
    have all : ∀ n : Nat, n < 64 → (PyData.list [.int n, .int n]).showable = true ∧ (PyData.list [.int n, .int n]).hasDict = false ∧ (PyData.list [.int n, .int n]).shown.length ≤ sizeLine ∧ (PyData.list [.int n, .int n]).depth ≤ 60 := by decide +kernel
    exact all n (h n rfl)
end KP
/-! KpMove: _law_moved, _law_replaced. -/
namespace KP
open PySem PySem.Spec PyProof.Rows L2
theorem ixT {X : Cx} {K : PySem.W.Frag} (h : X.K = K) : IxR X (rIxT K) := by
  subst h
  exact ix_tup
theorem ixL {X : Cx} {K : PySem.W.Frag} (h : X.K = K) : IxR X (rIxL K) := by
  subst h
  exact ix_list
theorem winSame {H H1 : Hp} {D T : Addr} {acc xs : List V} (e : H D = some (.lst acc)) (n : H T = none) : Tups H (L2.upd (L2.upd H T (.tup xs)) D (.lst (acc ++ [.ref T]))) := fun b ys h => by
  rw [upd_ne (ne_of h e (by intro z; cases z)), upd_ne (ne_of_none h n)]
  exact h
section
variable {P : Program} {w : World} {K : PySem.W.Frag} {mg : Str → Option Value} {base : Heap}
def spMove : Sp := fun vs H Q _ => ∃ a us ps far, vs = [.ref a, .int far] ∧ H a = some (.lst us) ∧ Wins H us ps ∧ AllOk 1000 ps ∧ us.length ≤ 41 ∧ 0 ≤ far ∧ far ≤ 10 ^ 58 ∧
  ∀ H' p us' ps', Same H H' → H p = none → H' p = some (.lst us') → Wins H' us' ps' → AllOk (10 ^ 58 + 1000) ps' → us'.length ≤ 41 → Q (.ref p) H'
def spRepl : Sp := fun vs H Q _ => ∃ r a us ps M, vs = [.ref r, .ref a] ∧ Rng H r ∧ H a = some (.lst us) ∧ Wins H us ps ∧ AllOk M ps ∧ 12 ≤ M ∧ us.length ≤ 41 ∧
  ∀ H' p us' ps', Keep r H H' → Rng H' r → H p = none → p ≠ r → H' p = some (.lst us') → Wins H' us' ps' → AllOk M ps' → us'.length ≤ 41 → Q (.ref p) H'
theorem ok_move {f : Addr} {fd : FuncData} {k : Nat} (F : Fun K "_law_moved" "_law_moved" sMove f fd) : FnOk P w K mg base CX0 (k + 1) f fd ["_law_some", "_law_far"] spMove := by
  refine F.ok scMove (fun vs H Q E h => ?_) (fun cdv A outer s H vs Q E hr h => ?_)
  · obtain ⟨a, us, ps, far, rfl, _⟩ := h
    rfl
  · obtain ⟨a, us, ps, far, rfl, ea, ws, ok, ul, f0, f1, q⟩ := h
    refine ⟨_, pss_one (ps_ret (pe_lc (own := [("_law_one", 2)]) (g := gName 2) (tt := tYes) rfl scMove.nd (pi_list (pv 0)) (blkOk_by (N := ["_law_some", "_law_far", "_law_one"]) (sc := defScope sMove) (by decide +kernel))
        (fun _ _ _ _ _ => pg_name (i := 2) scMove.nd rfl (Or.inl rfl)) (fun _ _ _ _ _ => pts_nil)
        (fun _ _ _ _ _ => pe_tup (pa_cons (pe_op op_add (pe_ix (ixT (K := K) rfl) (pv 2) pe_int (fun _ _ => rfl)) (pv 1)) (pa_cons (pe_ifExp (pt_cmp (pc_isN (pe_ix (ixT (K := K) rfl) (pv 2) pe_int (fun _ _ => rfl)))) pe_non (pe_op op_add (pe_ix (ixT (K := K) rfl) (pv 2) pe_int (fun _ _ => rfl)) (pv 1))) pa_nil))))), ?_⟩
    refine ⟨_, rfl, a, rfl, ⟨us, SqL.of ea⟩, fun D nD => ?_⟩
    refine lc_list (xs := us) (fun i H' => ∃ vs2 ps2, Same H H' ∧ H' D = some (.lst vs2) ∧ Wins H' vs2 ps2 ∧ vs2.length = i ∧ AllOk (10 ^ 58 + 1000) ps2) ⟨[], [], same_upd nD, upd_same, Wins.nil, rfl, fun p hp => absurd hp List.not_mem_nil⟩
      (fun i H' _ h => by obtain ⟨_, _, sm, _⟩ := h; exact SqL.of (sm _ _ ea)) (fun i x H1 hx h => ?_) fun H1 h => ?_
    · obtain ⟨vs2, ps2, sm, eD, w2, l2, ok2⟩ := h
      obtain ⟨⟨lo, hi⟩, hp, wa⟩ := ws.get hx
      have hi' : i < us.length := (List.getElem?_eq_some_iff.mp hx).1
      obtain ⟨o0, o1, o2⟩ := ok.at' hp
      have o0' : 0 ≤ lo := o0
      have o1' : lo ≤ 1000 := o1
      obtain ⟨b, rfl, eb⟩ := wa.to (Same.tups sm)
      refine ⟨rfl, _, rfl, b, _, 0, .int lo, rfl, rfl, SqT.of eb, atI_nat (j := 0) rfl, _, rfl, lo, far, rfl, rfl, _, rfl, b, _, 1, hv hi, rfl, rfl, SqT.of eb, atI_nat (j := 1) rfl, _, rfl, ?_⟩
      have fin : ∀ hi2 : Option Int, (∀ h, hi2 = some h → lo + far ≤ h ∧ h ≤ 10 ^ 58 + 1000) → 2 ≤ sizeLine ∧ ∀ T, H1 T = none → ∃ acc, L2.upd H1 T (.tup [.int (lo + far), hv hi2]) D = some (.lst acc) ∧ acc.length < sizeLine ∧
          ∃ vs3 ps3, Same H (L2.upd (L2.upd H1 T (.tup [.int (lo + far), hv hi2])) D (.lst (acc ++ [.ref T]))) ∧ L2.upd (L2.upd H1 T (.tup [.int (lo + far), hv hi2])) D (.lst (acc ++ [.ref T])) D = some (.lst vs3) ∧
            Wins (L2.upd (L2.upd H1 T (.tup [.int (lo + far), hv hi2])) D (.lst (acc ++ [.ref T]))) vs3 ps3 ∧ vs3.length = i + 1 ∧ AllOk (10 ^ 58 + 1000) ps3 := fun hi2 hb => by
        refine ⟨by decide, fun T nT => ?_⟩
        have DT : D ≠ T := ne_of_none eD nT
        refine ⟨vs2, (by rw [upd_ne DT]; exact eD), small1000 (by omega), vs2 ++ [.ref T], ps2 ++ [(lo + far, hi2)], fun c o hc => ?_, upd_same, (w2.to (winSame (H1 := H1) eD nT)).push ⟨T, rfl, by rw [upd_ne DT.symm, upd_same]; rfl⟩, by rw [List.length_append, l2]; rfl, ok2.push ⟨?_, ?_, hb⟩⟩
        · rw [upd_ne (ne_of_none hc nD)]
          exact same_upd nT _ _ (sm c o hc)
        · show 0 ≤ lo + far
          omega
        · show lo + far ≤ 10 ^ 58 + 1000
          omega
      cases hi with
      | none => exact iteT (fin none fun h e => nomatch e)
      | some h0 =>
        have o3 : lo ≤ h0 ∧ h0 ≤ 1000 := o2 h0 rfl
        refine iteF ⟨_, rfl, b, _, 1, .int h0, rfl, rfl, SqT.of eb, atI_nat (j := 1) rfl, _, rfl, h0, far, rfl, rfl, fin (some (h0 + far)) fun h e => ?_⟩
        cases e
        omega
    · obtain ⟨vs2, ps2, sm, eD, w2, l2, ok2⟩ := h
      exact q H1 D vs2 ps2 sm nD eD w2 ok2 (by omega)
end
end KP
/-! KpRepl: _law_replaced. -/
namespace KP
open PySem PySem.Spec PyProof.Rows L2
theorem ixN_in {n : Nat} {d : Int} (h0 : 0 ≤ d) (h1 : d < n) : ixN n d = some d.toNat := by
  unfold ixN
  rw [if_pos h0, if_pos h1]
section
variable {P : Program} {w : World} {K : PySem.W.Frag} {mg : Str → Option Value} {base : Heap}
theorem ok_repl {f fD : Addr} {fd fdD : FuncData} (F : Fun K "_law_replaced" "_law_replaced" sRepl f fd) (B : Blt mg) (DD : Dn P w K mg base 1 "_law_draw" ["_law_rng_here", "_law_many"] spDraw fD fdD) :
    FnOk P w K mg base CX0 2 f fd ["_law_rng_here", "_law_some"] spRepl := by
  refine F.ok scRepl (fun vs H Q E h => ?_) (fun cdv A outer s H vs Q E hr h => ?_)
  · obtain ⟨r, a, us, ps, M, rfl, _⟩ := h
    rfl
  · obtain ⟨r, a, us, ps, M, rfl, g0, ea, ws, ok, hM, ul, q⟩ := h
    refine ⟨_, pss_cons (ps_set (i := 2) scRepl.nd rfl (.inl rfl) (pbT call_list_of B.lst bL (pa_cons (pv 1) pa_nil)))
      (pss_cons (ps_for PassesOwn.never rfl (pi_range1 (by rfl) B.rng (pa_cons (pe_op op_mul (pcall DD hr (pa_cons (pv 0) (pa_cons pe_int pa_nil))) (pbT call_int1 B.int bI (pa_cons (pe_cmpR (op_neD hr.units) (pv 2) (pe_lst pa_nil) (nomark _)) pa_nil))) pa_nil)) (pg_name (i := 3) scRepl.nd rfl (.inl rfl))
        (pss_cons (ps_set (i := 4) scRepl.nd rfl (.inl rfl) (pcall DD hr (pa_cons (pv 0) (pa_cons pe_int pa_nil))))
        (pss_one (ps_asg (pe_tup (pa_cons (pv 4) (pa_cons (pe_ix ix_list (pe_lst (pa_cons pe_non (pa_cons (pv 4) (pa_cons (pe_op op_add (pv 4) (pcall DD hr (pa_cons (pv 0) (pa_cons pe_int pa_nil)))) pa_nil)))) (pcall DD hr (pa_cons (pv 0) (pa_cons pe_int pa_nil))) (fun _ _ => rfl)) pa_nil)))
          (pg_sub (pv 2) (pcall DD hr (pa_cons (pv 0) (pa_cons (pbB call_len_seq B.len PySem.boot_len (pa_cons (pv 2) pa_nil)) pa_nil))) set_list)))))
      (pss_one (ps_ret (pv 2)))), ?_⟩
    -- found = list(some)
    refine ⟨_, rfl, a, us, rfl, .inl (SqL.of ea), fun F1 nF => ?_⟩
    have rF : r ≠ F1 := g0.ne_lst nF
    have nFr : F1 ≠ r := rF.symm
    have k1 : Keep r H (upd H F1 (.lst us)) := (Keep.refl r H).new nF
    have g1 : Rng (upd H F1 (.lst us)) r := g0.new rF
    have e1 : upd H F1 (.lst us) F1 = some (.lst us) := upd_same
    have w1 : Wins (upd H F1 (.lst us)) us ps := ws.to (Same.tups (same_upd nF))
    generalize upd H F1 (.lst us) = H1 at k1 g1 e1 w1
    -- range(draw(rng, 3) * int(found != []))
    refine ⟨_, rfl, r, 3, rfl, by decide, by decide, g1, fun H2 d k2 g2 d0 d1 => ?_⟩
    have e2 := k2 _ _ nFr e1
    have w2 := w1.to (k2.tups g1)
    have k12 := k1.trans k2
    refine ⟨_, rfl, Nat.zero_le _, fun p np => ?_⟩
    have Fp : F1 ≠ p := ne_of_none e2 np
    have e3 : upd H2 p (.lst []) F1 = some (.lst us) := same_upd np _ _ e2
    have g3 : Rng (upd H2 p (.lst [])) r := g2.new (g2.ne_lst np)
    have w3 : Wins (upd H2 p (.lst [])) us ps := w2.to (Same.tups (same_upd np))
    have k3 : Keep r H (upd H2 p (.lst [])) := k12.new (k12.back g2 np)
    refine ⟨dWs ps, dWs [], dp_wins w3 e3, dp_wins Wins.nil upd_same, shaped_ws ps, shaped_ws [], .inr ⟨_, rfl, ?_⟩⟩
    clear e1 e2 w1 w2 k1 k2 g1 g2
    generalize upd H2 p (.lst []) = H3 at e3 g3 w3 k3
    have turns : ∃ n : Int, d * (if (!PyData.eqv (dWs ps) (dWs [])) = true then 1 else 0) = n ∧ 0 ≤ n ∧ n ≤ 2 ∧ (0 < n → 0 < us.length) := by
      refine ⟨_, rfl, ?_⟩
      cases ps with
      | nil =>
        rw [eqv_ws []]
        simp
      | cons x xs =>
        have l := w3.len
        rw [List.length_cons] at l
        split <;> omega
    obtain ⟨n, en, n0, n2, npos⟩ := turns
    refine ⟨d, _, rfl, rfl, .inr (by split <;> decide), n, (by rw [← en]), by omega, by omega, ?_⟩
    refine for_range (n := n.toNat) (fun i σ H' => ∃ y3 y4 us' ps', σ = [some (.ref r), some (.ref a), some (.ref F1), y3, y4] ∧ Keep r H H' ∧ Rng H' r ∧ H' F1 = some (.lst us') ∧ Wins H' us' ps' ∧ us'.length = us.length ∧ AllOk M ps')
      ⟨none, none, us, ps, rfl, k3, g3, e3, w3, rfl, ok⟩ (fun i σ H4 hi hp => ?_) fun σ H4 hp => ?_
    · obtain ⟨y3, y4, us', ps', rfl, k4, g4, e4, w4, l4, ok4⟩ := hp
      have hpos : 0 < us.length := npos (by omega)
      -- low
      refine ⟨_, rfl, r, 8, rfl, by decide, by decide, g4, fun H5 lo k5 g5 lo0 lo1 => ?_⟩
      have e5 := k5 _ _ nFr e4
      have w5 := w4.to (k5.tups g4)
      have k05 := k4.trans k5
      -- the tuple
      refine ⟨_, rfl, _, rfl, _, rfl, _, rfl, r, 5, rfl, by decide, by decide, g5, fun H6 x k6 g6 x0 x1 => ⟨lo, x, rfl, rfl, (by show 3 ≤ sizeLine; decide), fun L nL => ?_⟩⟩
      have e6 := k6 _ _ nFr e5
      have w6 := w5.to (k6.tups g5)
      have k06 := k05.trans k6
      have rL := g6.ne_lst nL
      refine ⟨_, rfl, r, 3, rfl, by decide, by decide, g6.new rL, fun H7 y k7 g7 y0 y1 => ?_⟩
      have eL := k7 _ _ rL.symm upd_same
      obtain ⟨v, hv', vm⟩ := at_mem (xs := [V.non, .int lo, .int (lo + x)]) y0 (by show y < ((3 : Nat) : Int); omega)
      have hi0 : ∃ h : Option Int, v = hv h ∧ ∀ z, h = some z → lo ≤ z ∧ z ≤ 12 := by
        simp only [List.mem_cons, List.not_mem_nil, or_false] at vm
        rcases vm with e | e | e <;> subst e
        · exact ⟨none, rfl, fun z h => nomatch h⟩
        · exact ⟨some lo, rfl, fun z h => by cases h; omega⟩
        · exact ⟨some (lo + x), rfl, fun z h => by cases h; omega⟩
      obtain ⟨h, rfl, hb⟩ := hi0
      have k67 : Keep r H6 H7 := fun b o hb hh => k7 b o hb (same_upd nL b o hh)
      have e7 := k67 _ _ nFr e6
      have w7 := w6.to (k67.tups g6)
      have k07 := k06.trans k67
      refine ⟨L, _, y, hv h, rfl, rfl, SqL.of eL, hv', (by show 2 ≤ sizeLine; decide), fun T nT => ?_⟩
      have e8 : upd H7 T (.tup [.int lo, hv h]) F1 = some (.lst us') := same_upd nT _ _ e7
      have g8 : Rng (upd H7 T (.tup [.int lo, hv h])) r := g7.new (g7.ne_lst nT)
      have w8 := w7.to (Same.tups (same_upd (o := .tup [.int lo, hv h]) nT))
      have k08 : Keep r H (upd H7 T (.tup [.int lo, hv h])) := k07.new (k07.back g7 nT)
      have wT : WinAt (upd H7 T (.tup [.int lo, hv h])) (.ref T) (lo, h) := ⟨T, rfl, upd_same⟩
      generalize upd H7 T (.tup [.int lo, hv h]) = H8 at e8 g8 w8 k08 wT
      -- found[..] = it
      refine ⟨_, rfl, _, rfl, _, rfl, F1, us', rfl, .inl (SqL.of e8), r, (us'.length : Int), rfl, by omega, by omega, g8, fun H9 z k9 g9 z0 z1 => ?_⟩
      refine ⟨F1, us', z, z.toNat, rfl, rfl, k9 _ _ nFr e8, ixN_in z0 z1, ?_⟩
      have w9 := w8.to (k9.tups g8)
      have wT9 := wT.to (k9.tups g8)
      have e9 := k9 _ _ nFr e8
      have t9 : Tups H9 (upd H9 F1 (.lst (us'.set z.toNat (.ref T)))) := fun b xs hb => by
        rw [upd_ne (ne_of hb e9 (by intro z; cases z))]
        exact hb
      refine ⟨some (.int (0 + (i : Nat))), some (.int lo), us'.set z.toNat (.ref T), ps'.set z.toNat (lo, h), rfl, (k08.trans k9).new nF, g9.new rF, upd_same, (w9.to t9).set (wT9.to t9) z.toNat, by rw [List.length_set]; exact l4, ok4.set ⟨lo0, (by show lo ≤ M; omega), fun c hc => ?_⟩ z.toNat⟩
      have := hb c hc
      show lo ≤ c ∧ c ≤ M
      omega
    · obtain ⟨y3, y4, us', ps', rfl, k4, g4, e4, w4, l4, ok4⟩ := hp
      exact ⟨_, rfl, q H4 F1 us' ps' k4 g4 nF nFr e4 w4 ok4 (by omega)⟩
end
end KP
/-! KpPlain: the plain law: the program's look and the law's own agree. -/
namespace KP
open PySem PySem.Spec PyProof.Rows L2
theorem firstTrue_lt : ∀ {bs : List Bool} {n : Nat}, firstTrue bs = some n → n < bs.length
  | [], n, h => nomatch h
  | b :: r, n, h => by
    have h' : (if b = true then some 0 else (firstTrue r).map (· + 1)) = some n := h
    by_cases c : b = true
    · rw [if_pos c] at h'
      cases h'
      exact Nat.succ_pos _
    · rw [if_neg c] at h'
      cases e : firstTrue r with
      | none =>
        rw [e] at h'
        cases h'
      | some m =>
        rw [e] at h'
        cases h'
        exact Nat.succ_lt_succ (firstTrue_lt e)
theorem firstFall_lt {ps : List Win} {n : Nat} (h : firstFall ps = some n) : n < ps.length := by
  unfold firstFall at h
  cases e : firstTrue (fallL ps) with
  | none =>
    rw [e] at h
    cases h
  | some m =>
    rw [e] at h
    cases h
    have := firstTrue_lt e
    rw [fallL_len] at this
    show m + 1 < ps.length
    omega
/-- no finite bound is the greatest one -/
theorem reach_top {M : Int} {p : Win} (h : WOk M p) {n : Int} (hn : n ≤ 10 ^ 64) : reachB p n = decide (n ≤ topI p) := by
  obtain ⟨lo, hi⟩ := p
  cases hi with
  | none => exact (decide_eq_true (show n ≤ 10 ^ 64 from hn)).symm
  | some x => rfl
theorem cont_top {M : Int} {p : Win} (h : WOk M p) {n : Int} (hn : n ≤ 10 ^ 64) : contB p n = if decide (p.1 ≤ n) = true then decide (n ≤ topI p) else false := by
  unfold contB
  rw [reach_top h hn]
  cases decide (p.1 ≤ n) <;> rfl
theorem falls_rise {M : Int} {p q : Win} (hp : WOk M p) (hq : WOk M q) (hM : M < 10 ^ 64) : fallsB p q = !riseB p q := by
  obtain ⟨lo, hi⟩ := p
  obtain ⟨lo2, hi2⟩ := q
  unfold fallsB riseB
  by_cases c : lo2 < lo
  · have e : decide (lo2 < lo) = true := decide_eq_true c
    show (decide (lo2 < lo) || _) = !(if lo2 < lo then _ else _)
    rw [if_pos c, e]
    rfl
  · have e : decide (lo2 < lo) = false := decide_eq_false c
    show (decide (lo2 < lo) || _) = !(if lo2 < lo then _ else _)
    rw [if_neg c, e, Bool.false_or]
    cases hi with
    | none =>
      cases hi2 with
      | none => rfl
      | some y =>
        have := hq.2.2 y rfl
        have hy : y ≤ M := this.2
        have e2 : decide (y < (10 : Int) ^ 64) = true := decide_eq_true (by omega)
        exact e2
    | some x =>
      have hx : x ≤ M := (hp.2.2 x rfl).2
      cases hi2 with
      | none =>
        have e2 : decide ((10 : Int) ^ 64 < x) = false := decide_eq_false (by omega)
        exact e2
      | some y =>
        show decide (y < x) = !decide (x ≤ y)
        by_cases c2 : x ≤ y
        · rw [decide_eq_true c2, decide_eq_false (by omega)]
          rfl
        · rw [decide_eq_false c2, decide_eq_true (by omega)]
          rfl
theorem zip_congr {α : Type} {f g : Win → Win → α} {ps : List Win} (h : ∀ p q, p ∈ ps → q ∈ ps → f p q = g p q) : List.zipWith f ps (ps.drop 1) = List.zipWith g ps (ps.drop 1) := by
  apply List.ext_getElem?
  intro i
  rw [List.getElem?_zipWith, List.getElem?_zipWith]
  cases e1 : ps[i]? with
  | none => rfl
  | some p =>
    cases e2 : (ps.drop 1)[i]? with
    | none => rfl
    | some q => exact congrArg some (h p q (List.mem_of_getElem? e1) (List.drop_subset 1 ps (List.mem_of_getElem? e2)))
theorem fallsL_eq {M : Int} {ps : List Win} (ok : AllOk M ps) (hM : M < 10 ^ 64) : List.zipWith fallsB ps (ps.drop 1) = fallL ps := zip_congr fun p q hp hq => falls_rise (ok p hp) (ok q hq) hM
/-- the law's due place is the program's -/
theorem due_eq (ps : List Win) : firstTrue ((false :: fallL ps).take ps.length) = firstFall ps := by
  cases ps with
  | nil => rfl
  | cons p r =>
    have l : (fallL (p :: r)).length = r.length := by rw [fallL_len]; rfl
    rw [List.take_of_length_le (by rw [List.length_cons, l, List.length_cons]; exact Nat.le_refl _)]
    rfl
theorem cut_take (xs : List V) (n : Nat) : cutV xs none (some (n : Int)) = xs.take n := by
  unfold cutV
  rw [HT.sIx_none, HT.sIx_nat]
  show (List.drop 0 xs).take (min n xs.length - 0) = _
  rw [List.drop_zero, Nat.sub_zero]
  by_cases c : n ≤ xs.length
  · rw [Nat.min_eq_left c]
  · rw [Nat.min_eq_right (by omega), List.take_length, List.take_of_length_le (by omega)]
theorem cut_mid (x : V) (L : List V) (n : Nat) (h : L.length = n - 1) : cutV (x :: L) (some 1) (some (n : Int)) = L := by
  unfold cutV
  have e1 : HT.sIx (x :: L).length 0 (some 1) = 1 := by
    have := HT.sIx_nat (x :: L).length 0 1
    rw [show ((1 : Nat) : Int) = 1 from rfl] at this
    rw [this, List.length_cons]
    omega
  rw [e1, HT.sIx_nat]
  show L.take (min n (x :: L).length - 1) = L
  apply List.take_of_length_le
  rw [List.length_cons]
  omega
end KP
/-! KpRead: what the law's comprehensions read, once for all. -/
namespace KP
open PySem PySem.Spec PyProof.Rows L2
section
variable {K : PySem.W.Frag} {H : Hp} {a : Addr} {us : List V} {ps : List Win} {s0 s2 s3 s4 s5 s6 s7 s8 y9 y10 y11 : Option V} {te : TE} {Q : VK}
/-- [.. for one, other in zip(some, some[1:])] -/
theorem read_zip {f : Win → Win → V} (ea : H a = some (.lst us)) (ws : Wins H us ps) (ul : us.length ≤ 41)
    (hte : ∀ x y p q H' (G : VK), WinAt H' x p → WinAt H' y q → p ∈ ps → q ∈ ps → G (f p q) H' → te [s0, some (.ref a), s2, s3, s4, s5, s6, s7, s8, some x, some y, y11] H' G)
    (hd : ∀ H' D, Same H H' → H D = none → H' D = some (.lst (List.zipWith f ps (ps.drop 1))) → Q (.ref D) H') :
    tLc (iZip K (tCons (tVar 1) (tCons (tSl (rSlL K) (tVar 1) (tPart (tC (.int 1))) tNoPart) tNil))) (gTup K 2 (gCons (gName 9) (gCons (gName 10) gNil))) tYes te [9, 10] [s0, some (.ref a), s2, s3, s4, s5, s6, s7, s8, y9, y10, y11] H Q := by
  refine ⟨_, rfl, _, rfl, 1, rfl, a, us, rfl, SqL.of ea, fun c nc => ?_⟩
  have s1 : Same H (upd H c (.lst (cutV us (some 1) none))) := same_upd nc
  have ec : upd H c (.lst (cutV us (some 1) none)) c = some (.lst (us.drop 1)) := by
    rw [upd_same, cut1]
  refine ⟨a, c, us, us.drop 1, rfl, SqL.of (s1 _ _ ea), SqL.of ec, fun D nD => ?_⟩
  have nDH : H D = none := s1.free nD
  have cD : c ≠ D := ne_of_none ec nD
  have hlen : min us.length (us.drop 1).length = (List.zipWith f ps (ps.drop 1)).length := by rw [List.length_zipWith, List.length_drop, List.length_drop, ws.len]
  refine lc_it (walk_zip rfl) (fun i H' => Same H H' ∧ H' c = some (.lst (us.drop 1)) ∧ H' D = some (.lst ((List.zipWith f ps (ps.drop 1)).take i)))
    ⟨fun b o hb => same_upd nD _ _ (s1 b o hb), same_upd nD _ _ ec, upd_same⟩ (fun i H' _ h => ⟨SqL.of (h.1 _ _ ea), SqL.of h.2.1⟩) (fun i x H1 H2 hi h y => ?_) fun H1 h => ?_
  · obtain ⟨sm, ec1, eD1⟩ := h
    obtain ⟨T, x1, x2, rfl, nT, rfl, h1, h2⟩ := y
    have h1' : us[i]? = some x1 := h1
    have h2' : (us.drop 1)[i]? = some x2 := h2
    rw [List.getElem?_drop, Nat.add_comm 1 i] at h2'
    obtain ⟨p, hp, wp⟩ := ws.get h1'
    obtain ⟨q, hq, wq⟩ := ws.get h2'
    have s3 : Same H (upd H1 T (.tup [x1, x2])) := sm.trans (same_upd nT)
    refine ⟨T, [x1, x2], rfl, SqT.of upd_same, rfl, x1, [x2], rfl, x2, [], rfl, rfl, rfl, ?_⟩
    refine hte x1 x2 p q _ _ (wp.to (Same.tups s3)) (wq.to (Same.tups s3)) (List.mem_of_getElem? hp) (List.mem_of_getElem? hq) ?_
    have g : (List.zipWith f ps (ps.drop 1))[i]? = some (f p q) := by
      rw [List.getElem?_zipWith, hp, List.getElem?_drop, Nat.add_comm 1 i, hq]
    refine ⟨_, same_upd nT _ _ eD1, ?_, fun b o hb => ?_, ?_, ?_⟩
    · have := List.length_take_le i (List.zipWith f ps (ps.drop 1))
      exact small1000 (by omega)
    · rw [upd_ne (ne_of_none hb nDH)]
      exact s3 b o hb
    · rw [upd_ne cD]
      exact same_upd nT _ _ ec1
    · rw [upd_same, List.take_add_one, g]
      rfl
  · obtain ⟨sm, _, eD1⟩ := h
    rw [hlen, List.take_length] at eD1
    exact hd H1 D sm nDH eD1
/-- [.. for one in some] -/
theorem read_list {f : Win → V} (ea : H a = some (.lst us)) (ws : Wins H us ps) (ul : us.length ≤ 41)
    (hte : ∀ x p H' (G : VK), WinAt H' x p → p ∈ ps → G (f p) H' → te [s0, some (.ref a), s2, s3, s4, s5, s6, s7, s8, some x, y10, y11] H' G)
    (hd : ∀ H' D, Same H H' → H D = none → H' D = some (.lst (ps.map f)) → Q (.ref D) H') :
    tLc (iList K (tVar 1)) (gName 9) tYes te [9] [s0, some (.ref a), s2, s3, s4, s5, s6, s7, s8, y9, y10, y11] H Q := by
  refine ⟨_, rfl, a, rfl, ⟨us, SqL.of ea⟩, fun D nD => ?_⟩
  refine lc_list (xs := us) (fun i H' => Same H H' ∧ H' D = some (.lst ((ps.map f).take i))) ⟨same_upd nD, upd_same⟩ (fun i H' _ h => SqL.of (h.1 _ _ ea)) (fun i x H1 hx h => ?_) fun H1 h => ?_
  · obtain ⟨sm, eD1⟩ := h
    obtain ⟨p, hp, wp⟩ := ws.get hx
    refine ⟨rfl, hte x p _ _ (wp.to (Same.tups sm)) (List.mem_of_getElem? hp) ?_⟩
    have g : (ps.map f)[i]? = some (f p) := by
      rw [List.getElem?_map, hp]
      rfl
    have hi : i < us.length := (List.getElem?_eq_some_iff.mp hx).1
    refine ⟨_, eD1, ?_, fun b o hb => ?_, ?_⟩
    · have := List.length_take_le i (ps.map f)
      exact small1000 (by omega)
    · rw [upd_ne (ne_of_none hb nD)]
      exact sm b o hb
    · rw [upd_same, List.take_add_one, g]
      rfl
  · obtain ⟨sm, eD1⟩ := h
    rw [ws.len, ← List.length_map (f := f), List.take_length] at eD1
    exact hd H1 D sm nD eD1
/-- [not flag for flag in flags[1:len(some)]] -/
theorem read_not {fl : Addr} {L : List Bool} (ea : H a = some (.lst us)) (ef : H fl = some (.lst ((false :: L).map V.bl))) (hL : L.length = us.length - 1) (ul : us.length ≤ 41)
    (hd : ∀ H' D, Same H H' → H D = none → H' D = some (.lst ((L.map (!·)).map V.bl)) → Q (.ref D) H') :
    tLc (iList K (tSl (rSlL K) (tVar 3) (tPart (tC (.int 1))) (tPart (tCB (fun xs H Q => ∃ p ys, xs = [.ref p] ∧ (SqL K H p ys ∨ SqT K H p ys) ∧ Q (.int ys.length) H) (tCons (tVar 1) tNil))))) (gName 11) tYes (tNotV (tVar 11)) [11]
      [s0, some (.ref a), s2, some (.ref fl), s4, s5, s6, s7, s8, y9, y10, y11] H Q := by
  refine ⟨_, rfl, 1, rfl, _, rfl, a, us, rfl, .inl (SqL.of ea), (us.length : Int), rfl, fl, _, rfl, SqL.of ef, fun c nc => ?_⟩
  have s1 : Same H (upd H c (.lst (cutV ((false :: L).map V.bl) (some 1) (some (us.length : Int))))) := same_upd nc
  have ec : upd H c (.lst (cutV ((false :: L).map V.bl) (some 1) (some (us.length : Int)))) c = some (.lst (L.map V.bl)) := by
    rw [upd_same, List.map_cons, cut_mid _ _ _ (by rw [List.length_map]; exact hL)]
  generalize upd H c (.lst (cutV ((false :: L).map V.bl) (some 1) (some (us.length : Int)))) = H1 at s1 ec
  refine ⟨c, rfl, ⟨_, SqL.of ec⟩, fun D nD => ?_⟩
  have cD : c ≠ D := ne_of_none ec nD
  refine lc_list (xs := L.map V.bl) (fun i H' => Same H1 H' ∧ H' D = some (.lst (((L.map (!·)).map V.bl).take i))) ⟨same_upd nD, upd_same⟩ (fun i H' _ h => SqL.of (h.1 _ _ ec)) (fun i x H2 hx h => ?_) fun H2 h => ?_
  · obtain ⟨sm, eD1⟩ := h
    rw [List.getElem?_map] at hx
    cases e : L[i]? with
    | none =>
      rw [e] at hx
      cases hx
    | some b =>
      rw [e] at hx
      cases hx
      have g : ((L.map (!·)).map V.bl)[i]? = some (.bl (!b)) := by
        rw [List.getElem?_map, List.getElem?_map, e]
        rfl
      have hi : i < L.length := (List.getElem?_eq_some_iff.mp e).1
      refine ⟨rfl, _, rfl, b, rfl, _, eD1, ?_, fun z o hz => ?_, ?_⟩
      · have := List.length_take_le i ((L.map (!·)).map V.bl)
        exact small1000 (by omega)
      · rw [upd_ne (ne_of_none hz nD)]
        exact sm z o hz
      · rw [upd_same, List.take_add_one, g]
        rfl
  · obtain ⟨sm, eD1⟩ := h
    rw [List.take_of_length_le (by rw [List.length_map, List.length_map, List.length_map]; exact Nat.le_refl _)] at eD1
    exact hd H2 D (s1.trans sm) (s1.free nD) eD1
/-- [top(one) + draw(rng, 2) for one in some if one[1] is not None] -/
theorem read_tops {r : Addr} {M : Int} (g0 : Rng H r) (ar : a ≠ r) (ea : H a = some (.lst us)) (ws : Wins H us ps) (ok : AllOk M ps) (ul : us.length ≤ 41)
    (hd : ∀ (H' : Hp) (D : Addr) (ns : List Int), Keep r H H' → Rng H' r → H D = none → D ≠ r → H' D = some (.lst (ns.map V.int)) → (∀ n ∈ ns, 0 ≤ n ∧ n ≤ M + 1) → ns.length ≤ 41 → Q (.ref D) H') :
    tLc (iList K (tVar 1)) (gName 9) (tB (tNotN (tOp (rIxT K) (tVar 9) (tC (.int 1))))) (tOp (rI0 fun i j => .int (i + j)) (tCall spTop [] E0 (tCons (tVar 9) tNil)) (tCall spDraw [] E0 (tCons (tVar 0) (tCons (tC (.int 2)) tNil)))) [9]
      [some (.ref r), some (.ref a), s2, s3, s4, s5, s6, s7, s8, y9, y10, y11] H Q := by
  refine ⟨_, rfl, a, rfl, ⟨us, SqL.of ea⟩, fun D nD => ?_⟩
  have rD := g0.ne_lst nD
  refine lc_list (xs := us) (fun i H' => ∃ ns : List Int, Keep r H H' ∧ Rng H' r ∧ H' D = some (.lst (ns.map V.int)) ∧ (∀ n ∈ ns, 0 ≤ n ∧ n ≤ M + 1) ∧ ns.length ≤ i)
    ⟨[], (Same.keep (same_upd nD)), g0.new rD, upd_same, fun n hn => absurd hn List.not_mem_nil, Nat.le_refl _⟩ (fun i H' _ h => by obtain ⟨ns, k, _⟩ := h; exact SqL.of (k _ _ ar ea)) (fun i x H1 hx h => ?_) fun H1 h => ?_
  · obtain ⟨ns, k1, g1, eD, hn, hl⟩ := h
    obtain ⟨⟨lo, hi⟩, hp, wp⟩ := ws.get hx
    have hi' : i < us.length := (List.getElem?_eq_some_iff.mp hx).1
    have w1 := wp.to (k1.tups g0)
    obtain ⟨o0, o1, o2⟩ := ok.at' hp
    obtain ⟨b, rfl, eb⟩ := id w1
    refine ⟨rfl, _, rfl, b, _, 1, hv hi, rfl, rfl, SqT.of eb, atI_nat (j := 1) rfl, _, rfl, ?_⟩
    cases hi with
    | none => exact iteF ⟨ns, k1, g1, eD, hn, Nat.le_succ_of_le hl⟩
    | some x =>
      have o3 : lo ≤ x ∧ x ≤ M := o2 x rfl
      have o0' : 0 ≤ lo := o0
      refine iteT ⟨_, rfl, .ref b, (lo, some x), rfl, w1, _, rfl, _, 2, rfl, by decide, by decide, g1, fun H2 d k2 g2 d0 d1 => ⟨x, d, rfl, rfl, _, k2 _ _ rD.symm eD, ?_, ns ++ [x + d], ?_, g2.new rD, ?_, fun n hm => ?_, ?_⟩⟩
      · rw [List.length_map]
        exact small1000 (by omega)
      · exact (k1.trans k2).new nD
      · rw [upd_same, List.map_append]
        rfl
      · rcases List.mem_append.mp hm with z | z
        · exact hn n z
        · rw [List.mem_singleton.mp z]
          omega
      · rw [List.length_append]
        show ns.length + 1 ≤ i + 1
        omega
  · obtain ⟨ns, k1, g1, eD, hn, hl⟩ := h
    exact hd H1 D ns k1 g1 nD rD.symm eD hn (by omega)
end
end KP
/-! KpRight: _law_list_right. -/
namespace KP
open PySem PySem.Spec PyProof.Rows L2
/-- what stands while the list is looked at -/
structure St8 (H0 H : Hp) (r a kp : Addr) (us : List V) (ps : List Win) : Prop where
  k : Keep r H0 H
  g : Rng H r
  ar : a ≠ r
  ea : H a = some (.lst us)
  ws : Wins H us ps
  kr : kp ≠ r
  ek : H kp = some (.lst us)
theorem St8.go {H0 H H' : Hp} {r a kp : Addr} {us : List V} {ps : List Win} (h : St8 H0 H r a kp us ps) (k : Keep r H H') (g : Rng H' r) : St8 H0 H' r a kp us ps :=
  ⟨h.k.trans k, g, h.ar, k _ _ h.ar h.ea, h.ws.to (k.tups h.g), h.kr, k _ _ h.kr h.ek⟩
theorem St8.same {H0 H H' : Hp} {r a kp : Addr} {us : List V} {ps : List Win} (h : St8 H0 H r a kp us ps) (s : Same H H') : St8 H0 H' r a kp us ps := h.go (Same.keep s) (h.g.same s)
theorem rise_not (ps : List Win) : (fallL ps).map (!·) = List.zipWith riseB ps (ps.drop 1) := by
  unfold fallL
  rw [List.map_zipWith]
  simp
theorem zip_bl (f : Win → Win → Bool) (ps : List Win) : List.zipWith (fun p q => V.bl (f p q)) ps (ps.drop 1) = (List.zipWith f ps (ps.drop 1)).map V.bl := by
  rw [List.map_zipWith]
section
variable {D : Ends} {σ : L2.St} {H : Hp} {Q : VK}
theorem goNext (h : D.nx σ H) : tNext D σ H := h
theorem goSeq {t u : TS} (h : t { D with nx := u D } σ H) : tSeq t u D σ H := h
theorem goIf {c : TT} {t u : TS} (h : c σ H fun b H1 => if b = true then t D σ H1 else u D σ H1) : tIfS c t u D σ H := h
theorem goTest {t : TE} {R : Bool → Hp → Prop} (h : t σ H fun x H' => ∃ k, x = .bl k ∧ R k H') : tTest t σ H R := h
theorem goOp {r : R2} {ta tb : TE} (h : ta σ H fun x H1 => tb σ H1 fun y H2 => r x y H2 Q) : tOp r ta tb σ H Q := h
theorem goAsg {te : TE} {g : TG} (h : te σ H fun x H1 => g x σ H1 D.nx) : tAsg te g D σ H := h
theorem goCall {sp : Sp} {dvs : List V} {E : XK} {t : TA} (h : t σ H fun vs H1 => sp (vs ++ dvs) H1 Q E) : tCall sp dvs E t σ H Q := h
theorem goCons {ta : TE} {tr : TA} {R : List V → Hp → Prop} (h : ta σ H fun x H1 => tr σ H1 fun xs H2 => R (x :: xs) H2) : tCons ta tr σ H R := h
theorem goName {i : Nat} {v : V} {R : L2.St → Hp → Prop} (h : R (σ.set i (some v)) H) : gName i v σ H R := h
end
abbrev NR : List Str := ["_law_rng_here", "_law_some", "_law_kept", "_law_flags", "_law_due", "_law_numbers", "_law_number", "_law_found", "_law_told", "_law_one", "_law_other", "_law_flag"]
section
variable {P : Program} {w : World} {K : PySem.W.Frag} {mg : Str → Option Value} {base : Heap}
def spRight : Sp := fun vs H Q _ => ∃ r a us ps M, vs = [.ref r, .ref a] ∧ Rng H r ∧ a ≠ r ∧ H a = some (.lst us) ∧ Wins H us ps ∧ AllOk M ps ∧ 0 ≤ M ∧ M ≤ 10 ^ 59 ∧ us.length ≤ 41 ∧ ∀ H', Keep r H H' → Rng H' r → Q (.bl true) H'
theorem ok_right {f f1 f2 f3 f4 f5 f6 f7 f8 : Addr} {fd fd1 fd2 fd3 fd4 fd5 fd6 fd7 fd8 : FuncData} (F : Fun K "_law_list_right" "_law_list_right" sRight f fd) (B : Blt mg)
    (DS : Dn P w K mg base 2 "_law_falls" ["_law_one", "_law_other"] spFalls f1 fd1) (DF : Dn P w K mg base 1 "_law_first" ["_law_flags"] spFirst f2 fd2) (DA : Dn P w K mg base 6 "first_falling" ["windows"] spFall f3 fd3)
    (DL : Dn P w K mg base 7 "least_reaching" ["windows", "version"] spLeast f4 fd4) (DR : Dn P w K mg base 5 "rises" ["first", "second"] spRise f5 fd5) (DC : Dn P w K mg base 5 "contains" ["window", "version"] spCont f6 fd6)
    (DT : Dn P w K mg base 1 "_law_top" ["_law_one"] spTop f7 fd7) (DD : Dn P w K mg base 1 "_law_draw" ["_law_rng_here", "_law_many"] spDraw f8 fd8)
    (kA : KBinds K fd3 ["windows"] ["windows"] (fun us ws => us ++ ws) (fun vs zs => vs ++ zs)) (kL : KBinds K fd4 ["windows", "version"] ["version", "windows"] (fun us ws => us ++ ws.reverse) (fun vs zs => vs ++ zs.reverse)) :
    KB.FnG P w K mg base 8 f fd ["_law_rng_here", "_law_some"] spRight := by
  refine KB.fnG_of F scRight (fun vs H Q E h => ?_) (fun cdv A outer s H vs Q E hg hr h => ?_)
  · obtain ⟨r, a, us, ps, M, rfl, _⟩ := h
    rfl
  · obtain ⟨r, a, us, ps, M, rfl, g0, ar, ea, ws, ok, M0, M1, ul, q⟩ := h
    refine ⟨_, pss_cons (ps_set (i := 2) scRight.nd rfl (.inl rfl) (pbT call_list_of B.lst bL (pa_cons (pv 1) pa_nil)))
      (pss_cons (ps_set (i := 3) scRight.nd rfl (.inl rfl) (pe_op op_cat (pe_lst (pa_cons pe_bl pa_nil))
        (pe_lc (own := [("_law_one", 9), ("_law_other", 10)]) (g := gTup K 2 (gCons (gName 9) (gCons (gName 10) gNil))) (tt := tYes) rfl scRight.nd (pi_zip (by rfl) B.zip (pa_cons (pv 1) (pa_cons (pe_slice sl_list (pv 1) (po_some pe_int) po_none) pa_nil))) (blkOk_by (N := NR) (sc := defScope sRight) (by decide +kernel))
          (fun _ _ _ _ _ => pg_tup rfl (pgs_cons (pg_name (i := 9) scRight.nd rfl (Or.inl rfl)) (pgs_cons (pg_name (i := 10) scRight.nd rfl (Or.inl rfl)) pgs_nil))) (fun _ _ _ _ _ => pts_nil) (fun _ _ _ _ _ => pcall DS hr (pa_cons (pv 9) (pa_cons (pv 10) pa_nil))))))
      (pss_cons (ps_set (i := 4) scRight.nd rfl (.inl rfl) (pcall DF hr (pa_cons (pe_slice sl_list (pv 3) po_none (po_some (pbB call_len_seq B.len PySem.boot_len (pa_cons (pv 1) pa_nil)))) pa_nil)))
      (pss_cons (ps_if (pt_cmpR op_ne (pbB (KB.call_repr hg hr.units) B.repr boot_repr (pa_cons (pe_lst (pa_cons (pcall DA hr (pa_cons (pv 1) pa_nil)) (pa_cons (KB.pe_callK0 DA.ok (hr.mono (by decide)) (by rfl) DA.gl DA.kp kA (pk_cons (pv 1) pk_nil)) pa_nil))) pa_nil))
          (pbB (KB.call_repr hg hr.units) B.repr boot_repr (pa_cons (pe_lst (pa_cons (pv 4) (pa_cons (pv 4) pa_nil))) pa_nil)) (nomark _)) (pss_one (ps_ret pe_bl)) pss_nil)
      (pss_cons (ps_if (pt_cmpR (op_neD hr.units)
          (pe_lc (own := [("_law_one", 9), ("_law_other", 10)]) (g := gTup K 2 (gCons (gName 9) (gCons (gName 10) gNil))) (tt := tYes) rfl scRight.nd (pi_zip (by rfl) B.zip (pa_cons (pv 1) (pa_cons (pe_slice sl_list (pv 1) (po_some pe_int) po_none) pa_nil))) (blkOk_by (N := NR) (sc := defScope sRight) (by decide +kernel))
            (fun _ _ _ _ _ => pg_tup rfl (pgs_cons (pg_name (i := 9) scRight.nd rfl (Or.inl rfl)) (pgs_cons (pg_name (i := 10) scRight.nd rfl (Or.inl rfl)) pgs_nil))) (fun _ _ _ _ _ => pts_nil) (fun _ _ _ _ _ => pcall DR hr (pa_cons (pv 9) (pa_cons (pv 10) pa_nil))))
          (pe_lc (own := [("_law_flag", 11)]) (g := gName 11) (tt := tYes) rfl scRight.nd (pi_list (pe_slice sl_list (pv 3) (po_some pe_int) (po_some (pbB call_len_seq B.len PySem.boot_len (pa_cons (pv 1) pa_nil))))) (blkOk_by (N := NR) (sc := defScope sRight) (by decide +kernel))
            (fun _ _ _ _ _ => pg_name (i := 11) scRight.nd rfl (Or.inl rfl)) (fun _ _ _ _ _ => pts_nil) (fun _ _ _ _ _ => pe_not (pv 11))) (nomark _)) (pss_one (ps_ret pe_bl)) pss_nil)
      (pss_cons (ps_set (i := 5) scRight.nd rfl (.inl rfl) (pe_op op_cat
          (pe_lc (own := [("_law_one", 9)]) (g := gName 9) (tt := tYes) rfl scRight.nd (pi_list (pv 1)) (blkOk_by (N := NR) (sc := defScope sRight) (by decide +kernel)) (fun _ _ _ _ _ => pg_name (i := 9) scRight.nd rfl (Or.inl rfl)) (fun _ _ _ _ _ => pts_nil)
            (fun _ _ _ _ _ => pe_ix (ixT (K := K) rfl) (pv 9) pe_int (fun _ _ => rfl)))
          (pe_lst (pa_cons (pcall DD hr (pa_cons (pv 0) (pa_cons pe_int pa_nil))) (pa_cons pe_int (pa_cons (pe_op op_sub (pe_op op_pow pe_int pe_int) pe_int) pa_nil))))))
      (pss_cons (ps_for PassesOwn.never rfl (pi_list (pe_op op_cat (pv 5)
          (pe_lc (own := [("_law_one", 9)]) (g := gName 9) (tt := tB (tNotN (tOp (rIxT K) (tVar 9) (tC (.int 1))))) rfl scRight.nd (pi_list (pv 1)) (blkOk_by (N := NR) (sc := defScope sRight) (by decide +kernel)) (fun _ _ _ _ _ => pg_name (i := 9) scRight.nd rfl (Or.inl rfl))
            (fun _ _ _ _ _ => pts_one (pt_cmp (pc_notN (pe_ix (ixT (K := K) rfl) (pv 9) pe_int (fun _ _ => rfl)))))
            (fun _ _ _ _ _ => pe_op op_add (pcall DT hr (pa_cons (pv 9) pa_nil)) (pcall DD hr (pa_cons (pv 0) (pa_cons pe_int pa_nil))))))) (pg_name (i := 6) scRight.nd rfl (.inr rfl))
        (pss_cons (ps_if (pt_cmpR (op_neD hr.units)
            (pe_lc (own := [("_law_one", 9)]) (g := gName 9) (tt := tYes) rfl scRight.nd (pi_list (pv 1)) (blkOk_by (N := NR) (sc := defScope sRight) (by decide +kernel)) (fun _ _ _ _ _ => pg_name (i := 9) scRight.nd rfl (Or.inl rfl)) (fun _ _ _ _ _ => pts_nil)
              (fun _ _ _ _ _ => pcall DC hr (pa_cons (pv 9) (pa_cons (pv 6) pa_nil))))
            (pe_lc (own := [("_law_one", 9)]) (g := gName 9) (tt := tYes) rfl scRight.nd (pi_list (pv 1)) (blkOk_by (N := NR) (sc := defScope sRight) (by decide +kernel)) (fun _ _ _ _ _ => pg_name (i := 9) scRight.nd rfl (Or.inl rfl)) (fun _ _ _ _ _ => pts_nil)
              (fun _ _ _ _ _ => pe_chain op_le op_le (pe_ix (ixT (K := K) rfl) (pv 9) pe_int (fun _ _ => rfl)) (pv 6) (pcall DT hr (pa_cons (pv 9) pa_nil)))) (nomark _)) (pss_one (ps_ret pe_bl)) pss_nil)
        (pss_one (ps_if (pt_cmp (pc_isN (pv 4)))
          (pss_cons (ps_set (i := 7) scRight.nd rfl (.inl rfl) (pcall DF hr (pa_cons
              (pe_lc (own := [("_law_one", 9)]) (g := gName 9) (tt := tYes) rfl scRight.nd (pi_list (pv 1)) (blkOk_by (N := NR) (sc := defScope sRight) (by decide +kernel)) (fun _ _ _ _ _ => pg_name (i := 9) scRight.nd rfl (Or.inl rfl)) (fun _ _ _ _ _ => pts_nil)
                (fun _ _ _ _ _ => pe_cmpR op_ge (pcall DT hr (pa_cons (pv 9) pa_nil)) (pv 6) (nomark _))) pa_nil)))
          (pss_cons (ps_set (i := 8) scRight.nd rfl (.inl rfl) (pe_lst (pa_cons (pcall DL hr (pa_cons (pv 1) (pa_cons (pv 6) pa_nil))) (pa_cons (KB.pe_callK0 DL.ok (hr.mono (by decide)) (by rfl) DL.gl DL.kp kL (pk_cons (pv 6) (pk_cons (pv 1) pk_nil))) pa_nil))))
          (pss_one (ps_if (pt_cmpR op_ne (pbB (KB.call_repr hg hr.units) B.repr boot_repr (pa_cons (pv 8) pa_nil)) (pbB (KB.call_repr hg hr.units) B.repr boot_repr (pa_cons (pe_lst (pa_cons (pv 7) (pa_cons (pv 7) pa_nil))) pa_nil)) (nomark _)) (pss_one (ps_ret pe_bl)) pss_nil)))) pss_nil))))
      (pss_one (ps_ret (pe_cmpR (op_eqD hr.units) (pv 1) (pv 2) (nomark _)))))))))), ?_⟩
    have hps : ps.length = us.length := ws.len.symm
    have big : M < 10 ^ 64 := by omega
    -- kept
    refine ⟨_, rfl, a, us, rfl, .inl (SqL.of ea), fun kp nk => ?_⟩
    have h1 : St8 H (upd H kp (.lst us)) r a kp us ps := ⟨Same.keep (same_upd nk), g0.same (same_upd nk), ar, same_upd nk _ _ ea, ws.to (Same.tups (same_upd nk)), (g0.ne_lst nk).symm, upd_same⟩
    generalize upd H kp (.lst us) = H1 at h1
    -- flags
    refine ⟨(by show 1 ≤ sizeLine; decide), fun p1 n1 => ?_⟩
    have h2 := h1.same (same_upd (o := .lst [.bl false]) n1)
    have ep1 : upd H1 p1 (.lst [.bl false]) p1 = some (.lst [.bl false]) := upd_same
    generalize upd H1 p1 (.lst [.bl false]) = H2 at h2 ep1
    refine read_zip (f := fun p q => V.bl (fallsB p q)) h2.ea h2.ws ul (fun x y p q H' G wx wy _ _ h => ⟨_, rfl, _, rfl, x, p, y, q, rfl, wx, wy, h⟩) fun H3 D3 sm3 nD3 eD3 => ?_
    rw [zip_bl, fallsL_eq ok big] at eD3
    have h3 := h2.same sm3
    refine ⟨p1, D3, [.bl false], _, rfl, rfl, sm3 _ _ ep1, eD3, ?_, fun fl nfl => ?_⟩
    · rw [List.length_map, fallL_len]
      exact small (by show 1 + _ ≤ 1000; omega)
    have efl : upd H3 fl (.lst ([.bl false] ++ (fallL ps).map V.bl)) fl = some (.lst ((false :: fallL ps).map V.bl)) := upd_same
    have h4 := h3.same (same_upd (o := .lst ([.bl false] ++ (fallL ps).map V.bl)) nfl)
    generalize upd H3 fl (.lst ([.bl false] ++ (fallL ps).map V.bl)) = H4 at h4 efl
    clear h1 h2 h3 ep1 eD3
    -- due
    refine ⟨_, rfl, _, rfl, a, us, rfl, .inl (SqL.of h4.ea), (us.length : Int), rfl, fl, _, rfl, SqL.of efl, fun c nc => ?_⟩
    have ec : upd H4 c (.lst (cutV ((false :: fallL ps).map V.bl) none (some (us.length : Int)))) c = some (.lst (((false :: fallL ps).take ps.length).map V.bl)) := by
      rw [upd_same, cut_take, List.map_take, hps]
    have sm5 : Same H4 (upd H4 c (.lst (cutV ((false :: fallL ps).map V.bl) none (some (us.length : Int))))) := same_upd nc
    refine ⟨c, (false :: fallL ps).take ps.length, rfl, ec, ?_, fun H5 sm5' => ?_⟩
    · have := List.length_take_le ps.length (false :: fallL ps)
      omega
    rw [due_eq ps]
    have s45 := sm5.trans sm5'
    have h5 := h4.same s45
    have efl5 := s45 _ _ efl
    clear h4 efl ec sm5 sm5' s45
    obtain ⟨sh, nd, sz, dp⟩ := rep_ok (firstFall ps) fun n hn => by have := firstFall_lt hn; omega
    -- the two places
    refine ⟨_, rfl, a, us, ps, M, rfl, h5.ea, h5.ws, ok, fun H6 sm6 => ?_⟩
    have h6 := h5.same sm6
    refine ⟨_, rfl, a, us, ps, M, rfl, h6.ea, h6.ws, ok, fun H7 sm7 => ?_⟩
    have h7 := h6.same sm7
    have efl7 := sm7 _ _ (sm6 _ _ efl5)
    refine ⟨(by show 2 ≤ sizeLine; decide), fun l1 nl1 => ⟨l1, .list [dN (firstFall ps), dN (firstFall ps)], rfl, .lst (SqL.of upd_same) (.cons (dp_n _) (.cons (dp_n _) .nil)), sh, nd, sz, dp, ?_⟩⟩
    have h8 := h7.same (same_upd (o := .lst [ov (firstFall ps), ov (firstFall ps)]) nl1)
    have efl8 := same_upd (o := .lst [ov (firstFall ps), ov (firstFall ps)]) nl1 _ _ efl7
    refine ⟨_, rfl, _, rfl, (by show 2 ≤ sizeLine; decide), fun l2 nl2 => ⟨l2, .list [dN (firstFall ps), dN (firstFall ps)], rfl, .lst (SqL.of upd_same) (.cons (dp_n _) (.cons (dp_n _) .nil)), sh, nd, sz, dp, rfl, _, rfl, iteNS rfl ?_⟩⟩
    have h9 := h8.same (same_upd (o := .lst [ov (firstFall ps), ov (firstFall ps)]) nl2)
    have efl9 := same_upd (o := .lst [ov (firstFall ps), ov (firstFall ps)]) nl2 _ _ efl8
    generalize upd (upd H7 l1 (.lst [ov (firstFall ps), ov (firstFall ps)])) l2 (.lst [ov (firstFall ps), ov (firstFall ps)]) = H9 at h9 efl9
    clear h5 h6 h7 h8 efl5 efl7 efl8
    -- the pairs
    refine goNext ?_
    dsimp only
    refine goSeq (goIf (goTest (goOp ?_)))
    refine read_zip (f := fun p q => V.bl (riseB p q)) h9.ea h9.ws ul (fun x y p q H' G wx wy hp hq h => ⟨_, rfl, _, rfl, x, p, y, q, M, M, rfl, wx, wy, ok p hp, ok q hq, h⟩) fun H10 D10 sm10 nD10 eD10 => ?_
    rw [zip_bl] at eD10
    have h10 := h9.same sm10
    have efl10 := sm10 _ _ efl9
    refine read_not h10.ea efl10 (by rw [fallL_len, hps]) ul fun H11 D11 sm11 nD11 eD11 => ?_
    rw [rise_not] at eD11
    have h11 := h10.same sm11
    refine ⟨dBs (List.zipWith riseB ps (ps.drop 1)), dBs (List.zipWith riseB ps (ps.drop 1)), dp_bs (sm11 _ _ eD10), dp_bs eD11, shaped_bs _, shaped_bs _, _, rfl, ?_⟩
    rw [eqv_bs]
    refine iteF ?_
    clear h9 h10 efl9 efl10 eD10 eD11
    -- numbers
    refine goNext ?_
    dsimp only
    refine goSeq (goAsg (goOp ?_))
    refine read_list (f := fun p => V.int p.1) h11.ea h11.ws ul (fun x p H' G wx _ h => by
      obtain ⟨b, rfl, eb⟩ := wx
      exact ⟨_, rfl, b, _, 0, .int p.1, rfl, rfl, SqT.of eb, atI_nat (j := 0) rfl, h⟩) fun H12 D12 sm12 nD12 eD12 => ?_
    have h12 := h11.same sm12
    have Dr : D12 ≠ r := fun e => by
      rw [e] at nD12
      obtain ⟨A1, B1, z, _⟩ := h11.g
      rw [nD12] at z
      cases z
    refine ⟨_, rfl, r, 12, rfl, by decide, by decide, h12.g, fun H13 d k13 g13 d0 d1 => ⟨10, 59, rfl, rfl, ⟨by decide, by decide, by decide⟩, _, 1, rfl, rfl, (by show 3 ≤ sizeLine; decide), fun l3 nl3 => ?_⟩⟩
    have h13 := h12.go k13 g13
    have eD13 := k13 _ _ Dr eD12
    have h14 := h13.same (same_upd (o := .lst [.int d, .int 0, (fun i j : Int => V.int (i - j)) ((10 : Int) ^ Int.toNat 59) 1]) nl3)
    have eD14 := same_upd (o := .lst [.int d, .int 0, (fun i j : Int => V.int (i - j)) ((10 : Int) ^ Int.toNat 59) 1]) nl3 _ _ eD13
    refine ⟨D12, l3, _, [.int d, .int 0, .int (10 ^ 59 - 1)], rfl, rfl, eD14, upd_same, ?_, fun nb nnb => ?_⟩
    · rw [List.length_map]
      exact small (by show _ + 3 ≤ 1000; omega)
    have h15 := h14.same (same_upd (o := .lst (ps.map (fun p => V.int p.1) ++ [.int d, .int 0, .int (10 ^ 59 - 1)])) nnb)
    have enb : upd (upd H13 l3 (.lst [.int d, .int 0, (fun i j : Int => V.int (i - j)) ((10 : Int) ^ Int.toNat 59) 1])) nb (.lst (ps.map (fun p => V.int p.1) ++ [.int d, .int 0, .int (10 ^ 59 - 1)])) nb = some (.lst ((ps.map (fun p => p.1) ++ [d, 0, 10 ^ 59 - 1]).map V.int)) := by
      rw [upd_same, List.map_append, List.map_map]
      rfl
    have nbr : nb ≠ r := (h14.g.ne_lst nnb).symm
    have numA : ∀ n ∈ ps.map (fun p => p.1) ++ [d, 0, 10 ^ 59 - 1], 0 ≤ n ∧ n ≤ 10 ^ 60 := fun n hn => by
      rcases List.mem_append.mp hn with z | z
      · obtain ⟨p, hp, rfl⟩ := List.mem_map.mp z
        have := ok p hp
        exact ⟨this.1, by have := this.2.1; omega⟩
      · simp only [List.mem_cons, List.not_mem_nil, or_false] at z
        omega
    generalize upd (upd H13 l3 (.lst [.int d, .int 0, (fun i j : Int => V.int (i - j)) ((10 : Int) ^ Int.toNat 59) 1])) nb (.lst (ps.map (fun p => V.int p.1) ++ [.int d, .int 0, .int (10 ^ 59 - 1)])) = H15 at h15 enb
    clear h11 h12 h13 h14 eD12 eD13 eD14
    have lA : (ps.map (fun p => p.1) ++ [d, 0, 10 ^ 59 - 1]).length ≤ 44 := by
      rw [List.length_append, List.length_map]
      show _ + 3 ≤ 44
      omega
    generalize ps.map (fun p => p.1) ++ [d, 0, 10 ^ 59 - 1] = nA at enb numA lA
    -- the loop's list
    refine ⟨_, rfl, read_tops h15.g h15.ar h15.ea h15.ws ok ul fun H16 D16 ns k16 g16 nD16 D16r eD16 hns lns => ?_⟩
    have h16 := h15.go k16 g16
    refine ⟨nb, D16, _, _, rfl, rfl, k16 _ _ nbr enb, eD16, ?_, fun al nal => ?_⟩
    · rw [List.length_map, List.length_map]
      exact small (by omega)
    have h17 := h16.same (same_upd (o := .lst (nA.map V.int ++ ns.map V.int)) nal)
    have eal : upd H16 al (.lst (nA.map V.int ++ ns.map V.int)) al = some (.lst ((nA ++ ns).map V.int)) := by
      rw [upd_same, List.map_append]
    have num : ∀ n ∈ nA ++ ns, 0 ≤ n ∧ n ≤ 10 ^ 60 := fun n hn => by
      rcases List.mem_append.mp hn with z | z
      · exact numA n z
      · have := hns n z
        omega
    generalize upd H16 al (.lst (nA.map V.int ++ ns.map V.int)) = H17 at h17 eal
    generalize nA ++ ns = nn at num eal
    have alr : al ≠ r := fun e => by
      obtain ⟨A1, B1, z, _⟩ := h16.g
      rw [← e, nal] at z
      cases z
    clear h15 h16 enb eD16 hns
    refine ⟨al, rfl, ⟨_, SqL.of eal⟩, for_list (xs := nn.map V.int) (fun i σ H' => ∃ y6 y7 y8, σ = [some (.ref r), some (.ref a), some (.ref kp), some (.ref fl), some (ov (firstFall ps)), some (.ref nb), y6, y7, y8, none, none, none] ∧ St8 H H' r a kp us ps ∧ H' al = some (.lst (nn.map V.int)))
      ⟨none, none, none, rfl, h17, eal⟩ (fun i σ H' _ hp => by obtain ⟨_, _, _, _, _, e⟩ := hp; exact SqL.of e) (fun i x σ H18 hx hp => ?_) fun σ H18 hp => ?_⟩
    · obtain ⟨y6, y7, y8, rfl, h18, e18⟩ := hp
      rw [List.getElem?_map] at hx
      cases en : nn[i]? with
      | none =>
        rw [en] at hx
        cases hx
      | some n =>
        rw [en] at hx
        cases hx
        obtain ⟨n0, n1⟩ := num n (List.mem_of_getElem? en)
        have n2 : n ≤ 10 ^ 64 := by omega
        -- contains
        refine goName ?_
        refine goSeq (goIf (goTest (goOp ?_)))
        refine read_list (f := fun p => V.bl (contB p n)) h18.ea h18.ws ul (fun x p H' G wx hp h => ⟨_, rfl, _, rfl, x, p, M, n, rfl, wx, ok p hp, n0, h⟩) fun H19 D19 sm19 nD19 eD19 => ?_
        have h19 := h18.same sm19
        refine read_list (f := fun p => V.bl (if decide (p.1 ≤ n) = true then decide (n ≤ topI p) else false)) h19.ea h19.ws ul (fun x p H' G wx hp h => by
          obtain ⟨b, rfl, eb⟩ := id wx
          refine ⟨_, rfl, b, _, 0, .int p.1, rfl, rfl, SqT.of eb, atI_nat (j := 0) rfl, _, rfl, p.1, n, rfl, rfl, _, rfl, ?_⟩
          by_cases c : decide (p.1 ≤ n) = true
          · rw [if_pos c] at h
            rw [if_pos c]
            exact ⟨_, rfl, .ref b, p, rfl, wx, n, topI p, rfl, rfl, h⟩
          · rw [if_neg c] at h
            rw [if_neg c]
            exact h) fun H20 D20 sm20 nD20 eD20 => ?_
        have h20 := h19.same sm20
        have ec : ps.map (fun p => V.bl (if decide (p.1 ≤ n) = true then decide (n ≤ topI p) else false)) = (ps.map fun p => contB p n).map V.bl := by
          rw [List.map_map]
          exact List.map_congr_left fun p hp => by
            exact congrArg V.bl (cont_top (ok p hp) n2).symm
        rw [ec] at eD20
        have ec2 : ps.map (fun p => V.bl (contB p n)) = (ps.map fun p => contB p n).map V.bl := by
          rw [List.map_map]
          rfl
        rw [ec2] at eD19
        refine ⟨dBs (ps.map fun p => contB p n), dBs (ps.map fun p => contB p n), dp_bs (sm20 _ _ eD19), dp_bs eD20, shaped_bs _, shaped_bs _, _, rfl, ?_⟩
        rw [eqv_bs]
        refine iteF ?_
        have e20 := sm20 _ _ (sm19 _ _ e18)
        clear h18 h19 e18 eD19 eD20 ec ec2
        -- if due is None
        refine ⟨_, rfl, _, rfl, ?_⟩
        cases eo : firstFall ps with
        | some z => exact iteF ⟨_, _, _, rfl, h20, e20⟩
        | none =>
          refine iteT ?_
          refine goSeq (goAsg (goCall (goCons ?_)))
          refine read_list (f := fun p => V.bl (decide (n ≤ topI p))) h20.ea h20.ws ul (fun x p H' G wx hp h => ⟨_, rfl, x, p, rfl, wx, _, rfl, topI p, n, rfl, rfl, h⟩) fun H21 D21 sm21 nD21 eD21 => ?_
          have h21 := h20.same sm21
          have er : (ps.map fun p => reachB p n) = ps.map fun p => decide (n ≤ topI p) := List.map_congr_left fun p hp => reach_top (ok p hp) n2
          have er2 : ps.map (fun p => V.bl (decide (n ≤ topI p))) = (ps.map fun p => decide (n ≤ topI p)).map V.bl := by
            rw [List.map_map]
            rfl
          rw [er2] at eD21
          refine ⟨D21, ps.map fun p => decide (n ≤ topI p), rfl, eD21, (by rw [List.length_map]; omega), fun H22 sm22 => ?_⟩
          have h22 := h21.same sm22
          refine ⟨_, rfl, _, rfl, a, us, ps, M, n, rfl, h22.ea, h22.ws, ok, eo, n0, fun H23 sm23 => ?_⟩
          have h23 := h22.same sm23
          refine ⟨_, rfl, _, rfl, a, us, ps, M, n, rfl, h23.ea, h23.ws, ok, eo, n0, fun H24 sm24 => ?_⟩
          have h24 := h23.same sm24
          rw [er]
          obtain ⟨sh2, nd2, sz2, dp2⟩ := rep_ok (firstTrue (ps.map fun p => decide (n ≤ topI p))) fun m hm => by
            have := firstTrue_lt hm
            rw [List.length_map] at this
            omega
          refine ⟨(by show 2 ≤ sizeLine; decide), fun tl ntl => ?_⟩
          refine ⟨_, rfl, tl, .list [dN (firstTrue (ps.map fun p => decide (n ≤ topI p))), dN (firstTrue (ps.map fun p => decide (n ≤ topI p)))], rfl, .lst (SqL.of upd_same) (.cons (dp_n _) (.cons (dp_n _) .nil)), sh2, nd2, sz2, dp2, ?_⟩
          refine ⟨_, rfl, _, rfl, (by show 2 ≤ sizeLine; decide), fun l4 nl4 => ⟨l4, .list [dN (firstTrue (ps.map fun p => decide (n ≤ topI p))), dN (firstTrue (ps.map fun p => decide (n ≤ topI p)))], rfl, .lst (SqL.of upd_same) (.cons (dp_n _) (.cons (dp_n _) .nil)), sh2, nd2, sz2, dp2, rfl, _, rfl, iteNS rfl ?_⟩⟩
          have e24 := sm24 _ _ (sm23 _ _ (sm22 _ _ (sm21 _ _ e20)))
          exact ⟨_, _, _, rfl, (h24.same (same_upd ntl)).same (same_upd nl4), same_upd nl4 _ _ (same_upd ntl _ _ e24)⟩
    · obtain ⟨y6, y7, y8, rfl, h18, e18⟩ := hp
      refine ⟨_, rfl, _, rfl, dWs ps, dWs ps, dp_wins h18.ws h18.ea, dp_wins h18.ws h18.ek, shaped_ws ps, shaped_ws ps, ?_⟩
      rw [eqv_ws]
      exact q H18 h18.k h18.g
end
end KP
/-! KpLaw: law. -/
namespace KP
open PySem PySem.Spec PyProof.Rows L2
theorem SqL.keep {K : PySem.W.Frag} {H H' : Hp} {a r : Addr} {xs : List V} (h : SqL K H a xs) (n : H r = none) (k : Keep r H H') : SqL K H' a xs := by
  rcases h with (h | ⟨o, h⟩) | h
  · exact .inl (.inl (k _ _ (ne_of_none h n) h))
  · exact .inl (.inr ⟨o, k _ _ (ne_of_none h n) h⟩)
  · exact .inr h
/-- keywords alone, in the parameters' order -/
def gAll {α : Type} (us ws : List α) : List α := match us with
  | [] => ws
  | _ :: _ => []
theorem ite_two {c : Bool} {x y : Int} {R : Int → Prop} (h : ∀ m, m = x ∨ m = y → R m) : if c = true then R x else R y := by
  cases c with
  | true => exact h x (.inl rfl)
  | false => exact h y (.inr rfl)
section
variable {P : Program} {w : World} {K : PySem.W.Frag} {mg : Str → Option Value} {base : Heap}
def spLaw (K : PySem.W.Frag) : Sp := fun vs H Q _ => ∃ (a : Addr) (ns : List Int), vs = [.ref a] ∧ SqL K H a (ns.map V.int) ∧ ns.length ≤ 63 ∧ ∀ H', Q (.bl true) H'
theorem ok_law {f f1 f2 f3 f4 f5 f6 f7 f8 f9 : Addr} {fd fd1 fd2 fd3 fd4 fd5 fd6 fd7 fd8 fd9 : FuncData} (F : Fun K "law" "law" sLaw f fd) (B : Blt mg)
    (DG : Dn P w K mg base 1 "_law_rng" ["_law_script", "_law_k"] (spRng K) f1 fd1) (DD : Dn P w K mg base 1 "_law_draw" ["_law_rng_here", "_law_many"] spDraw f2 fd2) (DM : Dn P w K mg base 2 "_law_windows" ["_law_rng_here", "_law_many", "_law_loose"] spMake f3 fd3)
    (DV : Dn P w K mg base 1 "_law_moved" ["_law_some", "_law_far"] spMove f4 fd4) (DH : Dn P w K mg base 2 "_law_choice" ["_law_rng_here", "_law_options"] spChoice f5 fd5) (DP : Dn P w K mg base 2 "_law_replaced" ["_law_rng_here", "_law_some"] spRepl f6 fd6)
    (GR : KB.FnG P w K mg base 8 f7 fd7 ["_law_rng_here", "_law_some"] spRight) (mR : mg "_law_list_right" = some (.ref f7)) (kR : PySem.W.keepIn K (.ref f7) = true) (bR : Binds K fd7 ["_law_rng_here", "_law_some"] [])
    (DR : Dn P w K mg base 5 "rises" ["first", "second"] spRise f8 fd8) (DC : Dn P w K mg base 5 "contains" ["window", "version"] spCont f9 fd9)
    (kbR : KBinds K fd8 ["first", "second"] ["first", "second"] gAll gAll) (kbC : KBinds K fd9 ["window", "version"] ["version", "window"] (fun us ws => us ++ ws.reverse) (fun vs zs => vs ++ zs.reverse)) :
    KB.FnG P w K mg base 9 f fd ["_law_script"] (spLaw K) := by
  refine KB.fnG_of F scLaw (fun vs H Q E h => ?_) (fun cdv A outer s H vs Q E hg hr h => ?_)
  · obtain ⟨a, ns, rfl, _⟩ := h
    rfl
  · obtain ⟨a, ns, rfl, hS, hlen, q⟩ := h
    refine ⟨_, pss_cons (ps_for PassesOwn.never rfl (pi_range1 (by rfl) B.rng (pa_cons (pbB (call_max2 rfl) B.max boot_max (pa_cons pe_int (pa_cons (pbB (call_min2 rfl) B.min boot_min (pa_cons (pbB call_len_seq B.len PySem.boot_len (pa_cons (pv 0) pa_nil)) (pa_cons pe_int pa_nil))) pa_nil))) pa_nil))
        (pg_name (i := 1) scLaw.nd rfl (.inl rfl))
        (pss_cons (ps_set (i := 2) scLaw.nd rfl (.inl rfl) (pcall DG hr (pa_cons (pv 0) (pa_cons (pv 1) pa_nil))))
        (pss_one (ps_for PassesOwn.never rfl (pi_range1 (by rfl) B.rng (pa_cons pe_int pa_nil)) (pg_name (i := 3) scLaw.nd rfl (.inl rfl))
          (pss_cons (ps_set (i := 4) scLaw.nd rfl (.inl rfl) (pe_ifExp (pt_cmpR op_gt (pcall DD hr (pa_cons (pv 2) (pa_cons pe_int pa_nil))) pe_int (nomark _)) pe_int pe_int))
          (pss_cons (ps_set (i := 5) scLaw.nd rfl (.inl rfl) (pcall DM hr (pa_cons (pv 2) (pa_cons (pcall DD hr (pa_cons (pv 2) (pa_cons (pv 4) pa_nil))) (pa_cons (pcall DD hr (pa_cons (pv 2) (pa_cons pe_int pa_nil))) pa_nil)))))
          (pss_cons (ps_set (i := 5) scLaw.nd rfl (.inl rfl) (pcall DV hr (pa_cons (pv 5) (pa_cons (pcall DH hr (pa_cons (pv 2) (pa_cons (pe_lst (pa_cons pe_int (pa_cons pe_int (pa_cons (pe_op op_add pe_int (pcall DD hr (pa_cons (pv 2) (pa_cons pe_int pa_nil))))
              (pa_cons (pe_op op_pow pe_int pe_int) (pa_cons (pe_op op_pow pe_int pe_int) (pa_cons (pe_op op_pow pe_int pe_int) pa_nil)))))) ) pa_nil))) pa_nil))))
          (pss_cons (ps_if (PW.pt (pw_or (pt_not (pt_val (KB.pe_callG GR hg (hr.mono (by decide)) (by rfl) mR kR bR (pa_cons (pv 2) (pa_cons (pv 5) pa_nil)))))
              (pw_or1 (pt_not (pt_val (KB.pe_callG GR hg (hr.mono (by decide)) (by rfl) mR kR bR (pa_cons (pv 2) (pa_cons (pcall DP hr (pa_cons (pv 2) (pa_cons (pv 5) pa_nil))) pa_nil)))))))) (pss_one (ps_ret pe_bl)) pss_nil)
          (pss_one (ps_if (pt_cmpR (op_neD hr.units) (pv 5) (pe_lst pa_nil) (nomark _))
            (pss_cons (ps_set (i := 6) scLaw.nd rfl (.inl rfl) (pcall DD hr (pa_cons (pv 2) (pa_cons pe_int pa_nil))))
            (pss_cons (ps_asg (pe_tup (pa_cons (pv 6) (pa_cons (pe_ix ix_list (pe_lst (pa_cons pe_non (pa_cons (pv 6) (pa_cons (pe_op op_add (pv 6) pe_int) pa_nil)))) (pcall DD hr (pa_cons (pv 2) (pa_cons pe_int pa_nil))) (fun _ _ => rfl)) pa_nil)))
              (pg_sub (pv 5) (pcall DD hr (pa_cons (pv 2) (pa_cons (pbB call_len_seq B.len PySem.boot_len (pa_cons (pv 5) pa_nil)) pa_nil))) set_list))
            (pss_one (ps_if (pt_not (pt_val (KB.pe_callG GR hg (hr.mono (by decide)) (by rfl) mR kR bR (pa_cons (pv 2) (pa_cons (pv 5) pa_nil))))) (pss_one (ps_ret pe_bl)) pss_nil))))
            pss_nil)))))))))
      )
      (pss_one (ps_ret (pe_and (pe_cmpR op_isBl (KB.pe_callK0 DR.ok (hr.mono (by decide)) (by rfl) DR.gl DR.kp kbR (pk_cons (pe_tup (pa_cons pe_int (pa_cons pe_int pa_nil))) (pk_cons (pe_tup (pa_cons pe_int (pa_cons pe_non pa_nil))) pk_nil))) pe_bl (nomark _))
        (pe_one (pe_cmpR op_isBl (KB.pe_callK0 DC.ok (hr.mono (by decide)) (by rfl) DC.gl DC.kp kbC (pk_cons pe_int (pk_cons (pe_tup (pa_cons pe_int (pa_cons pe_int pa_nil))) pk_nil))) pe_bl (nomark _)))))), ?_⟩
    have mx : ∀ z : Int, z ≤ 5 → 0 ≤ (if z > 1 then z else 1) ∧ (if z > 1 then z else 1) ≤ 5 := fun z hz => by
      split <;> omega
    have mn : ∀ z : Int, (if 5 < z then 5 else z) ≤ 5 := fun z => by
      split <;> omega
    obtain ⟨m0, m1⟩ := mx _ (mn ((ns.map V.int).length : Int))
    refine ⟨_, rfl, a, _, rfl, .inl hS, _, 5, rfl, 1, _, rfl, _, rfl, by omega, by omega, ?_⟩
    refine for_range (fun i σ H' => ∃ y1 y2 y3 y4 y5 y6, σ = [some (.ref a), y1, y2, y3, y4, y5, y6] ∧ SqL K H' a (ns.map V.int)) ⟨none, none, none, none, none, none, rfl, hS⟩ (fun i σ H1 hi hp => ?_) fun σ H1 hp => ?_
    · obtain ⟨y1, y2, y3, y4, y5, y6, rfl, hS1⟩ := hp
      refine ⟨_, rfl, _, rfl, a, ns, _, rfl, hS1, by omega, by omega, fun H2 r sm2 nr g2 => ?_⟩
      -- four times
      refine ⟨4, rfl, by decide, by decide, ?_⟩
      refine for_range (fun j σ H' => ∃ y3 y4 y5 y6, σ = [some (.ref a), some (.int (0 + (i : Nat))), some (.ref r), y3, y4, y5, y6] ∧ Keep r H1 H' ∧ Rng H' r) ⟨y3, y4, y5, y6, rfl, Same.keep sm2, g2⟩ (fun j σ H3 hj hp => ?_) fun σ H3 hp => ?_
      · obtain ⟨y3, y4, y5, y6, rfl, k3, g3⟩ := hp
        refine ⟨_, rfl, r, 8, rfl, by decide, by decide, g3, fun H4 d k4 g4 _ _ => ⟨d, 0, rfl, rfl, _, rfl, ?_⟩⟩
        refine ite_two (R := fun m => tC (V.int m) _ H4 _) fun most hm => ?_
        have most0 : 0 < most ∧ most ≤ 41 := by omega
        -- some = windows(..)
        refine ⟨_, rfl, _, rfl, _, rfl, r, most, rfl, most0.1, by omega, g4, fun H5 m5 k5 g5 c0 c1 => ?_⟩
        refine ⟨_, rfl, r, 2, rfl, by decide, by decide, g5, fun H6 l6 k6 g6 b0 b1 => ?_⟩
        refine ⟨r, m5, l6, rfl, c0, by omega, b0, by omega, g6, fun H7 p7 us7 ps7 k7 g7 n7 p7r e7 w7 ok7 l7 => ?_⟩
        have k17 : Keep r H1 H7 := (((k3.trans k4).trans k5).trans k6).trans k7
        clear k3 k4 k5 k6 k7 g3 g4 g5 g6 n7
        -- some = moved(some, choice(..))
        refine ⟨_, rfl, _, rfl, _, rfl, r, 9, rfl, by decide, by decide, g7, fun H8 d8 k8 g8 a0 a1 => ⟨1, d8, rfl, rfl, 10, 9, rfl, rfl, ⟨by decide, by decide, by decide⟩, 10, 20, rfl, rfl, ⟨by decide, by decide, by decide⟩, 10, 58, rfl, rfl, ⟨by decide, by decide, by decide⟩, (by show 6 ≤ sizeLine; decide), fun L nL => ?_⟩⟩
        have e8 := k8 _ _ p7r e7
        have w8 := w7.to (k8.tups g7)
        have rL := g8.ne_lst nL
        refine ⟨r, L, _, rfl, rL.symm, upd_same, (by show 0 < 6; decide), (by show 6 ≤ 1000; decide), g8.new rL, fun H9 x k9 g9 xm => ?_⟩
        have far0 : ∃ far : Int, x = .int far ∧ 0 ≤ far ∧ far ≤ 10 ^ 58 := by
          simp only [List.mem_cons, List.not_mem_nil, or_false] at xm
          rcases xm with e | e | e | e | e | e
          · exact ⟨_, e, by decide, by decide⟩
          · exact ⟨_, e, by decide, by decide⟩
          · exact ⟨_, e, by omega, by omega⟩
          · exact ⟨_, e, by decide, by decide⟩
          · exact ⟨_, e, by decide, by decide⟩
          · exact ⟨_, e, by decide, by decide⟩
        obtain ⟨far, rfl, far0, far1⟩ := far0
        have k89 : Keep r H8 H9 := fun b o hb h => k9 b o hb (same_upd nL b o h)
        refine ⟨p7, us7, ps7, far, rfl, k89 _ _ p7r e8, w8.to (k89.tups g8), ok7, l7, far0, far1, fun H10 p us ps sm10 np e10 w10 ok10 l10 => ?_⟩
        have g10 : Rng H10 r := g9.same sm10
        have pr : p ≠ r := fun e => by
          obtain ⟨A1, B1, z, _⟩ := g9
          rw [← e, np] at z
          cases z
        have k10 : Keep r H1 H10 := ((k17.trans k8).trans k89).trans (Same.keep sm10)
        have nH1 : H1 p = none := ((k17.trans k8).trans k89).back g9 np
        clear k17 k8 k9 k89 g7 g8 g9 e7 e8 w7 w8 nL sm10 np xm
        -- right(rng, some), right(rng, replaced(rng, some))
        refine ⟨_, rfl, _, rfl, r, p, us, ps, 10 ^ 58 + 1000, rfl, g10, pr, e10, w10, ok10, by decide, by decide, l10, fun H11 k11 g11 => ⟨_, rfl, iteF ?_⟩⟩
        have e11 := k11 _ _ pr e10
        have w11 := w10.to (k11.tups g10)
        have k1a := k10.trans k11
        refine ⟨_, rfl, _, rfl, _, rfl, r, p, us, ps, 10 ^ 58 + 1000, rfl, g11, e11, w11, ok10, by decide, l10, fun H12 p2 us2 ps2 k12 g12 n2 p2r e12 w12 ok12 l12 => ?_⟩
        refine ⟨r, p2, us2, ps2, 10 ^ 58 + 1000, rfl, g12, p2r, e12, w12, ok12, by decide, by decide, l12, fun H13 k13 g13 => ⟨_, rfl, iteF ?_⟩⟩
        have e13 := k13 _ _ pr (k12 _ _ pr e11)
        have w13 := (w11.to (k12.tups g11)).to (k13.tups g12)
        have k1b := (k1a.trans k12).trans k13
        clear k10 k11 k12 k13 g10 g11 g12 e10 e11 e12 w10 w11 w12 k1a n2
        -- if some != []
        refine ⟨_, rfl, Nat.zero_le _, fun L2 nL2 => ?_⟩
        have e14 := same_upd (o := .lst []) nL2 _ _ e13
        have w14 := w13.to (Same.tups (same_upd (o := .lst []) nL2))
        have g14 := g13.new (o := .lst []) (g13.ne_lst nL2)
        have k14 := k1b.trans (Same.keep (same_upd (o := .lst []) nL2))
        refine ⟨dWs ps, dWs [], dp_wins w14 e14, dp_wins Wins.nil upd_same, shaped_ws ps, shaped_ws [], _, rfl, ite2 (fun hne => ?_) (fun _ => ⟨_, _, _, _, rfl, k14, g14⟩)⟩
        have upos : 0 < us.length := by
          cases ps with
          | nil =>
            rw [eqv_ws []] at hne
            cases hne
          | cons x xs =>
            rw [w14.len]
            exact Nat.succ_pos _
        generalize upd H13 L2 (.lst []) = H14 at e14 w14 g14 k14
        clear e13 w13 g13 k1b
        refine ⟨_, rfl, r, 30, rfl, by decide, by decide, g14, fun H15 lo k15 g15 lo0 lo1 => ?_⟩
        have e15 := k15 _ _ pr e14
        have w15 := w14.to (k15.tups g14)
        have k1c := k14.trans k15
        refine ⟨_, rfl, _, rfl, _, rfl, lo, 7, rfl, rfl, (by show 3 ≤ sizeLine; decide), fun L3 nL3 => ?_⟩
        have rL3 := g15.ne_lst nL3
        refine ⟨_, rfl, r, 3, rfl, by decide, by decide, g15.new rL3, fun H16 y k16 g16 y0 y1 => ?_⟩
        have eL := k16 _ _ rL3.symm upd_same
        obtain ⟨v, hv', vm⟩ := at_mem (xs := [V.non, .int lo, .int (lo + 7)]) y0 (by show y < ((3 : Nat) : Int); omega)
        have hi0 : ∃ h : Option Int, v = hv h ∧ ∀ z, h = some z → lo ≤ z ∧ z ≤ 40 := by
          simp only [List.mem_cons, List.not_mem_nil, or_false] at vm
          rcases vm with e | e | e <;> subst e
          · exact ⟨none, rfl, fun z h => nomatch h⟩
          · exact ⟨some lo, rfl, fun z h => by cases h; omega⟩
          · exact ⟨some (lo + 7), rfl, fun z h => by cases h; omega⟩
        obtain ⟨h, rfl, hb⟩ := hi0
        have k56 : Keep r H15 H16 := fun b o hb hh => k16 b o hb (same_upd nL3 b o hh)
        have e16 := k56 _ _ pr e15
        have w16 := w15.to (k56.tups g15)
        have k1d := k1c.trans k56
        refine ⟨L3, _, y, hv h, rfl, rfl, SqL.of eL, hv', (by show 2 ≤ sizeLine; decide), fun T nT => ?_⟩
        have e17 : upd H16 T (.tup [.int lo, hv h]) p = some (.lst us) := same_upd nT _ _ e16
        have g17 : Rng (upd H16 T (.tup [.int lo, hv h])) r := g16.new (g16.ne_lst nT)
        have w17 := w16.to (Same.tups (same_upd (o := .tup [.int lo, hv h]) nT))
        have k17 : Keep r H1 (upd H16 T (.tup [.int lo, hv h])) := k1d.trans (Same.keep (same_upd nT))
        have wT : WinAt (upd H16 T (.tup [.int lo, hv h])) (.ref T) (lo, h) := ⟨T, rfl, upd_same⟩
        generalize upd H16 T (.tup [.int lo, hv h]) = H17 at e17 g17 w17 k17 wT
        refine ⟨_, rfl, _, rfl, _, rfl, p, us, rfl, .inl (SqL.of e17), r, (us.length : Int), rfl, by omega, by omega, g17, fun H18 z k18 g18 z0 z1 => ?_⟩
        refine ⟨p, us, z, z.toNat, rfl, rfl, k18 _ _ pr e17, ixN_in z0 z1, ?_⟩
        have w18 := w17.to (k18.tups g17)
        have wT8 := wT.to (k18.tups g17)
        have e18 := k18 _ _ pr e17
        have t18 : Tups H18 (upd H18 p (.lst (us.set z.toNat (.ref T)))) := fun b xs hb => by
          rw [upd_ne (ne_of hb e18 (by intro z; cases z))]
          exact hb
        have ok18 : AllOk (10 ^ 58 + 1000) (ps.set z.toNat (lo, h)) := ok10.set ⟨lo0, (by show lo ≤ 10 ^ 58 + 1000; omega), fun c hc => (by
          have := hb c hc
          show lo ≤ c ∧ c ≤ 10 ^ 58 + 1000
          omega)⟩ z.toNat
        have k19 : Keep r H1 (upd H18 p (.lst (us.set z.toNat (.ref T)))) := (k17.trans k18).new nH1
        refine ⟨_, rfl, _, rfl, r, p, us.set z.toNat (.ref T), ps.set z.toNat (lo, h), 10 ^ 58 + 1000, rfl, g18.new pr.symm, pr, upd_same, (w18.to t18).set (wT8.to t18) z.toNat, ok18, by decide, by decide, (by rw [List.length_set]; exact l10), fun H19 k20 g20 => ⟨_, rfl, iteF ⟨_, _, _, _, rfl, k19.trans k20, g20⟩⟩⟩
      · obtain ⟨y3, y4, y5, y6, rfl, k3, g3⟩ := hp
        exact ⟨_, _, _, _, _, _, rfl, SqL.keep hS1 nr k3⟩
    · obtain ⟨y1, y2, y3, y4, y5, y6, rfl, hS1⟩ := hp
      refine ⟨(by show 2 ≤ sizeLine; decide), fun t1 n1 => ⟨(by show 2 ≤ sizeLine; decide), fun t2 n2 => ?_⟩⟩
      refine ⟨.ref t1, (0, some 1), .ref t2, (0, none), 10, 10, rfl, ⟨t1, rfl, same_upd n2 _ _ upd_same⟩, ⟨t2, rfl, upd_same⟩, ?_, ?_, _, true, rfl, rfl, _, rfl, iteT ?_⟩
      · exact ⟨by decide, by decide, fun h e => by cases e; decide⟩
      · exact ⟨by decide, by decide, fun h e => nomatch e⟩
      refine ⟨(by show 2 ≤ sizeLine; decide), fun t3 n3 => ?_⟩
      refine ⟨.ref t3, (1, some 3), 10, 2, rfl, ⟨t3, rfl, upd_same⟩, ?_, by decide, _, true, rfl, rfl, q _⟩
      exact ⟨by decide, by decide, fun h e => by cases e; decide⟩
end
end KP
/-! KpEnd: what the top has left; the law's end. -/
namespace KP
open PySem PySem.Spec PyProof.Rows L2
/-! ### calls by keywords -/
theorem kb_one {K : PySem.W.Frag} {fd : FuncData} {x : Str} (h1 : ∀ u, bindArgs fd ⟨[u], []⟩ = pure [(x, u)]) (h2 : ∀ u, bindArgs fd ⟨[], [(x, u)]⟩ = pure [(x, u)]) : KBinds K fd [x] [x] (fun us ws => us ++ ws) (fun vs zs => vs ++ zs) := by
  refine ⟨fun s us ws _ hl => ?_, fun r1 r2 => r1.append r2⟩
  match us, ws, hl with
  | [], [w], _ => exact .of_eq (h2 w)
  | [u], [], _ => exact .of_eq (h1 u)
theorem kb_all {K : PySem.W.Frag} {fd : FuncData} {x y : Str} (h : ∀ u v, bindArgs fd ⟨[], [(x, u), (y, v)]⟩ = pure [(x, u), (y, v)]) : KBinds K fd [x, y] [x, y] gAll gAll := by
  refine ⟨fun s us ws _ hl => ?_, fun r1 r2 => ?_⟩
  · match us, ws, hl with
    | [], [u, v], _ => exact .of_eq (h u v)
  · cases r1 with
    | nil => exact r2
    | cons _ _ => exact .nil
theorem kb_rev {K : PySem.W.Frag} {fd : FuncData} {x y : Str} (h0 : ∀ u v, bindArgs fd ⟨[], [(y, u), (x, v)]⟩ = pure [(x, v), (y, u)]) (h1 : ∀ u v, bindArgs fd ⟨[u], [(y, v)]⟩ = pure [(x, u), (y, v)]) (h2 : ∀ u v, bindArgs fd ⟨[u, v], []⟩ = pure [(x, u), (y, v)]) :
    KBinds K fd [x, y] [y, x] (fun us ws => us ++ ws.reverse) (fun vs zs => vs ++ zs.reverse) := by
  refine ⟨fun s us ws _ hl => ?_, fun r1 r2 => r1.append r2.reverse⟩
  have hl2 : us.length + ws.length = 2 := by simpa using hl
  clear hl
  rcases us with _ | ⟨u, _ | ⟨v, _ | ⟨t, us⟩⟩⟩
  · rcases ws with _ | ⟨u, _ | ⟨v, _ | ⟨t, ws⟩⟩⟩
    · simp at hl2
    · simp at hl2
    · exact .of_eq (h0 u v)
    · simp at hl2
  · rcases ws with _ | ⟨v, _ | ⟨t, ws⟩⟩
    · simp at hl2
    · exact .of_eq (h1 u v)
    · exfalso
      simp only [List.length_cons] at hl2
      omega
  · rcases ws with _ | ⟨t, ws⟩
    · exact .of_eq (h2 u v)
    · exfalso
      simp only [List.length_cons] at hl2
      omega
  · exfalso
    simp only [List.length_cons] at hl2
    omega
theorem kbCont {K : PySem.W.Frag} {f : Addr} {fd : FuncData} (F : Fun K "contains" "contains" sCont f fd) : KBinds K fd ["window", "version"] ["version", "window"] (fun us ws => us ++ ws.reverse) (fun vs zs => vs ++ zs.reverse) := by
  obtain ⟨oc, od, kV, doc, pm, an, cdv, ct, osl, rfl, lk, hcd⟩ := F.ex
  exact kb_rev (fun _ _ => rfl) (fun _ _ => rfl) (fun _ _ => rfl)
theorem kbRise {K : PySem.W.Frag} {f : Addr} {fd : FuncData} (F : Fun K "rises" "rises" sRise f fd) : KBinds K fd ["first", "second"] ["first", "second"] gAll gAll := by
  obtain ⟨oc, od, kV, doc, pm, an, cdv, ct, osl, rfl, lk, hcd⟩ := F.ex
  exact kb_all (fun _ _ => rfl)
theorem kbFall {K : PySem.W.Frag} {f : Addr} {fd : FuncData} (F : Fun K "first_falling" "first_falling" sFall f fd) : KBinds K fd ["windows"] ["windows"] (fun us ws => us ++ ws) (fun vs zs => vs ++ zs) := by
  obtain ⟨oc, od, kV, doc, pm, an, cdv, ct, osl, rfl, lk, hcd⟩ := F.ex
  exact kb_one (fun _ => rfl) (fun _ => rfl)
theorem kbLeast {K : PySem.W.Frag} {f : Addr} {fd : FuncData} (F : Fun K "least_reaching" "least_reaching" sLeast f fd) : KBinds K fd ["windows", "version"] ["version", "windows"] (fun us ws => us ++ ws.reverse) (fun vs zs => vs ++ zs.reverse) := by
  obtain ⟨oc, od, kV, doc, pm, an, cdv, ct, osl, rfl, lk, hcd⟩ := F.ex
  exact kb_rev (fun _ _ => rfl) (fun _ _ => rfl) (fun _ _ => rfl)
/-! ### what the top has written -/
theorem all_mk {l : PySem.W.OpenLaw} {w : World} {K : PySem.W.Frag} {h : Heap} {mg : Str → Option Value} {fa : Addr} (X : K.In h) (G : h.Ns mainGlobals mg) (hfa : mg "law" = some (.ref fa))
    {fInt : Addr} {odInt anInt : Option Addr} {slInt : Array (Option Value)} {ocInt kVInt dcInt pmInt cdInt ctInt : Value}
    (aInt : PySem.W.nsIn K mainGlobals "is_integer" = some (some (.ref fInt))) (lInt : K.lookup fInt = some ⟨ocInt, odInt, .func (PySem.W.fnOf "is_integer" "is_integer" (defArgs sInt) (defBody sInt) (defScope sInt) .none kVInt dcInt pmInt anInt cdInt ctInt), slInt⟩) (cInt : PySem.W.codeIn K cdInt "is_integer" = true) (kInt : PySem.W.keepIn K (.ref fInt) = true)
    {fVer : Addr} {odVer anVer : Option Addr} {slVer : Array (Option Value)} {ocVer kVVer dcVer pmVer cdVer ctVer : Value}
    (aVer : PySem.W.nsIn K mainGlobals "is_version" = some (some (.ref fVer))) (lVer : K.lookup fVer = some ⟨ocVer, odVer, .func (PySem.W.fnOf "is_version" "is_version" (defArgs sVer) (defBody sVer) (defScope sVer) .none kVVer dcVer pmVer anVer cdVer ctVer), slVer⟩) (cVer : PySem.W.codeIn K cdVer "is_version" = true) (kVer : PySem.W.keepIn K (.ref fVer) = true)
    {fReqV : Addr} {odReqV anReqV : Option Addr} {slReqV : Array (Option Value)} {ocReqV kVReqV dcReqV pmReqV cdReqV ctReqV : Value}
    (aReqV : PySem.W.nsIn K mainGlobals "require_version" = some (some (.ref fReqV))) (lReqV : K.lookup fReqV = some ⟨ocReqV, odReqV, .func (PySem.W.fnOf "require_version" "require_version" (defArgs sReqV) (defBody sReqV) (defScope sReqV) .none kVReqV dcReqV pmReqV anReqV cdReqV ctReqV), slReqV⟩) (cReqV : PySem.W.codeIn K cdReqV "require_version" = true) (kReqV : PySem.W.keepIn K (.ref fReqV) = true)
    {fWin : Addr} {odWin anWin : Option Addr} {slWin : Array (Option Value)} {ocWin kVWin dcWin pmWin cdWin ctWin : Value}
    (aWin : PySem.W.nsIn K mainGlobals "is_window" = some (some (.ref fWin))) (lWin : K.lookup fWin = some ⟨ocWin, odWin, .func (PySem.W.fnOf "is_window" "is_window" (defArgs sWin) (defBody sWin) (defScope sWin) .none kVWin dcWin pmWin anWin cdWin ctWin), slWin⟩) (cWin : PySem.W.codeIn K cdWin "is_window" = true) (kWin : PySem.W.keepIn K (.ref fWin) = true)
    {fReqW : Addr} {odReqW anReqW : Option Addr} {slReqW : Array (Option Value)} {ocReqW kVReqW dcReqW pmReqW cdReqW ctReqW : Value}
    (aReqW : PySem.W.nsIn K mainGlobals "require_window" = some (some (.ref fReqW))) (lReqW : K.lookup fReqW = some ⟨ocReqW, odReqW, .func (PySem.W.fnOf "require_window" "require_window" (defArgs sReqW) (defBody sReqW) (defScope sReqW) .none kVReqW dcReqW pmReqW anReqW cdReqW ctReqW), slReqW⟩) (cReqW : PySem.W.codeIn K cdReqW "require_window" = true) (kReqW : PySem.W.keepIn K (.ref fReqW) = true)
    {fReqL : Addr} {odReqL anReqL : Option Addr} {slReqL : Array (Option Value)} {ocReqL kVReqL dcReqL pmReqL cdReqL ctReqL : Value}
    (aReqL : PySem.W.nsIn K mainGlobals "require_windows" = some (some (.ref fReqL))) (lReqL : K.lookup fReqL = some ⟨ocReqL, odReqL, .func (PySem.W.fnOf "require_windows" "require_windows" (defArgs sReqL) (defBody sReqL) (defScope sReqL) .none kVReqL dcReqL pmReqL anReqL cdReqL ctReqL), slReqL⟩) (cReqL : PySem.W.codeIn K cdReqL "require_windows" = true) (kReqL : PySem.W.keepIn K (.ref fReqL) = true)
    {fReach : Addr} {odReach anReach : Option Addr} {slReach : Array (Option Value)} {ocReach kVReach dcReach pmReach cdReach ctReach : Value}
    (aReach : PySem.W.nsIn K mainGlobals "reaches" = some (some (.ref fReach))) (lReach : K.lookup fReach = some ⟨ocReach, odReach, .func (PySem.W.fnOf "reaches" "reaches" (defArgs sReach) (defBody sReach) (defScope sReach) .none kVReach dcReach pmReach anReach cdReach ctReach), slReach⟩) (cReach : PySem.W.codeIn K cdReach "reaches" = true) (kReach : PySem.W.keepIn K (.ref fReach) = true)
    {fCont : Addr} {odCont anCont : Option Addr} {slCont : Array (Option Value)} {ocCont kVCont dcCont pmCont cdCont ctCont : Value}
    (aCont : PySem.W.nsIn K mainGlobals "contains" = some (some (.ref fCont))) (lCont : K.lookup fCont = some ⟨ocCont, odCont, .func (PySem.W.fnOf "contains" "contains" (defArgs sCont) (defBody sCont) (defScope sCont) .none kVCont dcCont pmCont anCont cdCont ctCont), slCont⟩) (cCont : PySem.W.codeIn K cdCont "contains" = true) (kCont : PySem.W.keepIn K (.ref fCont) = true)
    {fRise : Addr} {odRise anRise : Option Addr} {slRise : Array (Option Value)} {ocRise kVRise dcRise pmRise cdRise ctRise : Value}
    (aRise : PySem.W.nsIn K mainGlobals "rises" = some (some (.ref fRise))) (lRise : K.lookup fRise = some ⟨ocRise, odRise, .func (PySem.W.fnOf "rises" "rises" (defArgs sRise) (defBody sRise) (defScope sRise) .none kVRise dcRise pmRise anRise cdRise ctRise), slRise⟩) (cRise : PySem.W.codeIn K cdRise "rises" = true) (kRise : PySem.W.keepIn K (.ref fRise) = true)
    {fFall : Addr} {odFall anFall : Option Addr} {slFall : Array (Option Value)} {ocFall kVFall dcFall pmFall cdFall ctFall : Value}
    (aFall : PySem.W.nsIn K mainGlobals "first_falling" = some (some (.ref fFall))) (lFall : K.lookup fFall = some ⟨ocFall, odFall, .func (PySem.W.fnOf "first_falling" "first_falling" (defArgs sFall) (defBody sFall) (defScope sFall) .none kVFall dcFall pmFall anFall cdFall ctFall), slFall⟩) (cFall : PySem.W.codeIn K cdFall "first_falling" = true) (kFall : PySem.W.keepIn K (.ref fFall) = true)
    {fLeast : Addr} {odLeast anLeast : Option Addr} {slLeast : Array (Option Value)} {ocLeast kVLeast dcLeast pmLeast cdLeast ctLeast : Value}
    (aLeast : PySem.W.nsIn K mainGlobals "least_reaching" = some (some (.ref fLeast))) (lLeast : K.lookup fLeast = some ⟨ocLeast, odLeast, .func (PySem.W.fnOf "least_reaching" "least_reaching" (defArgs sLeast) (defBody sLeast) (defScope sLeast) .none kVLeast dcLeast pmLeast anLeast cdLeast ctLeast), slLeast⟩) (cLeast : PySem.W.codeIn K cdLeast "least_reaching" = true) (kLeast : PySem.W.keepIn K (.ref fLeast) = true)
    {fRng : Addr} {odRng anRng : Option Addr} {slRng : Array (Option Value)} {ocRng kVRng dcRng pmRng cdRng ctRng : Value}
    (aRng : PySem.W.nsIn K mainGlobals "_law_rng" = some (some (.ref fRng))) (lRng : K.lookup fRng = some ⟨ocRng, odRng, .func (PySem.W.fnOf "_law_rng" "_law_rng" (defArgs sRng) (defBody sRng) (defScope sRng) .none kVRng dcRng pmRng anRng cdRng ctRng), slRng⟩) (cRng : PySem.W.codeIn K cdRng "_law_rng" = true) (kRng : PySem.W.keepIn K (.ref fRng) = true)
    {fDraw : Addr} {odDraw anDraw : Option Addr} {slDraw : Array (Option Value)} {ocDraw kVDraw dcDraw pmDraw cdDraw ctDraw : Value}
    (aDraw : PySem.W.nsIn K mainGlobals "_law_draw" = some (some (.ref fDraw))) (lDraw : K.lookup fDraw = some ⟨ocDraw, odDraw, .func (PySem.W.fnOf "_law_draw" "_law_draw" (defArgs sDraw) (defBody sDraw) (defScope sDraw) .none kVDraw dcDraw pmDraw anDraw cdDraw ctDraw), slDraw⟩) (cDraw : PySem.W.codeIn K cdDraw "_law_draw" = true) (kDraw : PySem.W.keepIn K (.ref fDraw) = true)
    {fChoice : Addr} {odChoice anChoice : Option Addr} {slChoice : Array (Option Value)} {ocChoice kVChoice dcChoice pmChoice cdChoice ctChoice : Value}
    (aChoice : PySem.W.nsIn K mainGlobals "_law_choice" = some (some (.ref fChoice))) (lChoice : K.lookup fChoice = some ⟨ocChoice, odChoice, .func (PySem.W.fnOf "_law_choice" "_law_choice" (defArgs sChoice) (defBody sChoice) (defScope sChoice) .none kVChoice dcChoice pmChoice anChoice cdChoice ctChoice), slChoice⟩) (cChoice : PySem.W.codeIn K cdChoice "_law_choice" = true) (kChoice : PySem.W.keepIn K (.ref fChoice) = true)
    {fMake : Addr} {odMake anMake : Option Addr} {slMake : Array (Option Value)} {ocMake kVMake dcMake pmMake cdMake ctMake : Value}
    (aMake : PySem.W.nsIn K mainGlobals "_law_windows" = some (some (.ref fMake))) (lMake : K.lookup fMake = some ⟨ocMake, odMake, .func (PySem.W.fnOf "_law_windows" "_law_windows" (defArgs sMake) (defBody sMake) (defScope sMake) .none kVMake dcMake pmMake anMake cdMake ctMake), slMake⟩) (cMake : PySem.W.codeIn K cdMake "_law_windows" = true) (kMake : PySem.W.keepIn K (.ref fMake) = true)
    {fTop : Addr} {odTop anTop : Option Addr} {slTop : Array (Option Value)} {ocTop kVTop dcTop pmTop cdTop ctTop : Value}
    (aTop : PySem.W.nsIn K mainGlobals "_law_top" = some (some (.ref fTop))) (lTop : K.lookup fTop = some ⟨ocTop, odTop, .func (PySem.W.fnOf "_law_top" "_law_top" (defArgs sTop) (defBody sTop) (defScope sTop) .none kVTop dcTop pmTop anTop cdTop ctTop), slTop⟩) (cTop : PySem.W.codeIn K cdTop "_law_top" = true) (kTop : PySem.W.keepIn K (.ref fTop) = true)
    {fFalls : Addr} {odFalls anFalls : Option Addr} {slFalls : Array (Option Value)} {ocFalls kVFalls dcFalls pmFalls cdFalls ctFalls : Value}
    (aFalls : PySem.W.nsIn K mainGlobals "_law_falls" = some (some (.ref fFalls))) (lFalls : K.lookup fFalls = some ⟨ocFalls, odFalls, .func (PySem.W.fnOf "_law_falls" "_law_falls" (defArgs sFalls) (defBody sFalls) (defScope sFalls) .none kVFalls dcFalls pmFalls anFalls cdFalls ctFalls), slFalls⟩) (cFalls : PySem.W.codeIn K cdFalls "_law_falls" = true) (kFalls : PySem.W.keepIn K (.ref fFalls) = true)
    {fFirst : Addr} {odFirst anFirst : Option Addr} {slFirst : Array (Option Value)} {ocFirst kVFirst dcFirst pmFirst cdFirst ctFirst : Value}
    (aFirst : PySem.W.nsIn K mainGlobals "_law_first" = some (some (.ref fFirst))) (lFirst : K.lookup fFirst = some ⟨ocFirst, odFirst, .func (PySem.W.fnOf "_law_first" "_law_first" (defArgs sFirst) (defBody sFirst) (defScope sFirst) .none kVFirst dcFirst pmFirst anFirst cdFirst ctFirst), slFirst⟩) (cFirst : PySem.W.codeIn K cdFirst "_law_first" = true) (kFirst : PySem.W.keepIn K (.ref fFirst) = true)
    {fRepl : Addr} {odRepl anRepl : Option Addr} {slRepl : Array (Option Value)} {ocRepl kVRepl dcRepl pmRepl cdRepl ctRepl : Value}
    (aRepl : PySem.W.nsIn K mainGlobals "_law_replaced" = some (some (.ref fRepl))) (lRepl : K.lookup fRepl = some ⟨ocRepl, odRepl, .func (PySem.W.fnOf "_law_replaced" "_law_replaced" (defArgs sRepl) (defBody sRepl) (defScope sRepl) .none kVRepl dcRepl pmRepl anRepl cdRepl ctRepl), slRepl⟩) (cRepl : PySem.W.codeIn K cdRepl "_law_replaced" = true) (kRepl : PySem.W.keepIn K (.ref fRepl) = true)
    {fMove : Addr} {odMove anMove : Option Addr} {slMove : Array (Option Value)} {ocMove kVMove dcMove pmMove cdMove ctMove : Value}
    (aMove : PySem.W.nsIn K mainGlobals "_law_moved" = some (some (.ref fMove))) (lMove : K.lookup fMove = some ⟨ocMove, odMove, .func (PySem.W.fnOf "_law_moved" "_law_moved" (defArgs sMove) (defBody sMove) (defScope sMove) .none kVMove dcMove pmMove anMove cdMove ctMove), slMove⟩) (cMove : PySem.W.codeIn K cdMove "_law_moved" = true) (kMove : PySem.W.keepIn K (.ref fMove) = true)
    {fRight : Addr} {odRight anRight : Option Addr} {slRight : Array (Option Value)} {ocRight kVRight dcRight pmRight cdRight ctRight : Value}
    (aRight : PySem.W.nsIn K mainGlobals "_law_list_right" = some (some (.ref fRight))) (lRight : K.lookup fRight = some ⟨ocRight, odRight, .func (PySem.W.fnOf "_law_list_right" "_law_list_right" (defArgs sRight) (defBody sRight) (defScope sRight) .none kVRight dcRight pmRight anRight cdRight ctRight), slRight⟩) (cRight : PySem.W.codeIn K cdRight "_law_list_right" = true) (kRight : PySem.W.keepIn K (.ref fRight) = true)
    {fLaw : Addr} {odLaw anLaw : Option Addr} {slLaw : Array (Option Value)} {ocLaw kVLaw dcLaw pmLaw cdLaw ctLaw : Value}
    (aLaw : PySem.W.nsIn K mainGlobals "law" = some (some (.ref fLaw))) (lLaw : K.lookup fLaw = some ⟨ocLaw, odLaw, .func (PySem.W.fnOf "law" "law" (defArgs sLaw) (defBody sLaw) (defScope sLaw) .none kVLaw dcLaw pmLaw anLaw cdLaw ctLaw), slLaw⟩) (cLaw : PySem.W.codeIn K cdLaw "law" = true) (kLaw : PySem.W.keepIn K (.ref fLaw) = true)
    (z0 : PySem.W.nsIn K mainGlobals "isinstance" = some none) (z1 : PySem.W.nsIn K mainGlobals "int" = some none) (z2 : PySem.W.nsIn K mainGlobals "bool" = some none) (z3 : PySem.W.nsIn K mainGlobals "tuple" = some none) (z4 : PySem.W.nsIn K mainGlobals "list" = some none) (z5 : PySem.W.nsIn K mainGlobals "len" = some none) (z6 : PySem.W.nsIn K mainGlobals "enumerate" = some none) (z7 : PySem.W.nsIn K mainGlobals "zip" = some none) (z8 : PySem.W.nsIn K mainGlobals "abs" = some none) (z9 : PySem.W.nsIn K mainGlobals "max" = some none) (z10 : PySem.W.nsIn K mainGlobals "min" = some none) (z11 : PySem.W.nsIn K mainGlobals "divmod" = some none) (z12 : PySem.W.nsIn K mainGlobals "range" = some none) (z13 : PySem.W.nsIn K mainGlobals "repr" = some none) :
    ∃ fd : FuncData, (∀ (s : Shared) (v : Value), BindsTo s fd ⟨[v], []⟩ [("_law_script", v)]) ∧ ∀ base : Heap, K.In base → base.Ns mainGlobals mg → KB.FnG l.prog w K mg base 9 fa fd ["_law_script"] (spLaw K) := by
  have e := hfa.symm.trans (PySem.W.mg_of X G aLaw)
  cases e
  have B : Blt mg := ⟨PySem.W.mg_none_of X G z0, PySem.W.mg_none_of X G z1, PySem.W.mg_none_of X G z2, PySem.W.mg_none_of X G z3, PySem.W.mg_none_of X G z4, PySem.W.mg_none_of X G z5, PySem.W.mg_none_of X G z6, PySem.W.mg_none_of X G z7, PySem.W.mg_none_of X G z8, PySem.W.mg_none_of X G z9, PySem.W.mg_none_of X G z10, PySem.W.mg_none_of X G z11, PySem.W.mg_none_of X G z12, PySem.W.mg_none_of X G z13⟩
  have FInt := fun_mk (st := sInt) lInt cInt kInt
  have bInt := FInt.binds (ps := ["value"]) fun _ _ _ _ _ _ us hl => match us, hl with | [_], _ => rfl
  have FVer := fun_mk (st := sVer) lVer cVer kVer
  have bVer := FVer.binds (ps := ["value"]) fun _ _ _ _ _ _ us hl => match us, hl with | [_], _ => rfl
  have FReqV := fun_mk (st := sReqV) lReqV cReqV kReqV
  have bReqV := FReqV.binds (ps := ["value"]) fun _ _ _ _ _ _ us hl => match us, hl with | [_], _ => rfl
  have FWin := fun_mk (st := sWin) lWin cWin kWin
  have bWin := FWin.binds (ps := ["value"]) fun _ _ _ _ _ _ us hl => match us, hl with | [_], _ => rfl
  have FReqW := fun_mk (st := sReqW) lReqW cReqW kReqW
  have bReqW := FReqW.binds (ps := ["value"]) fun _ _ _ _ _ _ us hl => match us, hl with | [_], _ => rfl
  have FReqL := fun_mk (st := sReqL) lReqL cReqL kReqL
  have bReqL := FReqL.binds (ps := ["value"]) fun _ _ _ _ _ _ us hl => match us, hl with | [_], _ => rfl
  have FReach := fun_mk (st := sReach) lReach cReach kReach
  have bReach := FReach.binds (ps := ["window", "version"]) fun _ _ _ _ _ _ us hl => match us, hl with | [_, _], _ => rfl
  have FCont := fun_mk (st := sCont) lCont cCont kCont
  have bCont := FCont.binds (ps := ["window", "version"]) fun _ _ _ _ _ _ us hl => match us, hl with | [_, _], _ => rfl
  have FRise := fun_mk (st := sRise) lRise cRise kRise
  have bRise := FRise.binds (ps := ["first", "second"]) fun _ _ _ _ _ _ us hl => match us, hl with | [_, _], _ => rfl
  have FFall := fun_mk (st := sFall) lFall cFall kFall
  have bFall := FFall.binds (ps := ["windows"]) fun _ _ _ _ _ _ us hl => match us, hl with | [_], _ => rfl
  have FLeast := fun_mk (st := sLeast) lLeast cLeast kLeast
  have bLeast := FLeast.binds (ps := ["windows", "version"]) fun _ _ _ _ _ _ us hl => match us, hl with | [_, _], _ => rfl
  have FRng := fun_mk (st := sRng) lRng cRng kRng
  have bRng := FRng.binds (ps := ["_law_script", "_law_k"]) fun _ _ _ _ _ _ us hl => match us, hl with | [_, _], _ => rfl
  have FDraw := fun_mk (st := sDraw) lDraw cDraw kDraw
  have bDraw := FDraw.binds (ps := ["_law_rng_here", "_law_many"]) fun _ _ _ _ _ _ us hl => match us, hl with | [_, _], _ => rfl
  have FChoice := fun_mk (st := sChoice) lChoice cChoice kChoice
  have bChoice := FChoice.binds (ps := ["_law_rng_here", "_law_options"]) fun _ _ _ _ _ _ us hl => match us, hl with | [_, _], _ => rfl
  have FMake := fun_mk (st := sMake) lMake cMake kMake
  have bMake := FMake.binds (ps := ["_law_rng_here", "_law_many", "_law_loose"]) fun _ _ _ _ _ _ us hl => match us, hl with | [_, _, _], _ => rfl
  have FTop := fun_mk (st := sTop) lTop cTop kTop
  have bTop := FTop.binds (ps := ["_law_one"]) fun _ _ _ _ _ _ us hl => match us, hl with | [_], _ => rfl
  have FFalls := fun_mk (st := sFalls) lFalls cFalls kFalls
  have bFalls := FFalls.binds (ps := ["_law_one", "_law_other"]) fun _ _ _ _ _ _ us hl => match us, hl with | [_, _], _ => rfl
  have FFirst := fun_mk (st := sFirst) lFirst cFirst kFirst
  have bFirst := FFirst.binds (ps := ["_law_flags"]) fun _ _ _ _ _ _ us hl => match us, hl with | [_], _ => rfl
  have FRepl := fun_mk (st := sRepl) lRepl cRepl kRepl
  have bRepl := FRepl.binds (ps := ["_law_rng_here", "_law_some"]) fun _ _ _ _ _ _ us hl => match us, hl with | [_, _], _ => rfl
  have FMove := fun_mk (st := sMove) lMove cMove kMove
  have bMove := FMove.binds (ps := ["_law_some", "_law_far"]) fun _ _ _ _ _ _ us hl => match us, hl with | [_, _], _ => rfl
  have FRight := fun_mk (st := sRight) lRight cRight kRight
  have bRight := FRight.binds (ps := ["_law_rng_here", "_law_some"]) fun _ _ _ _ _ _ us hl => match us, hl with | [_, _], _ => rfl
  have FLaw := fun_mk (st := sLaw) lLaw cLaw kLaw
  refine ⟨PySem.W.fnOf "law" "law" (defArgs sLaw) (defBody sLaw) (defScope sLaw) .none kVLaw dcLaw pmLaw anLaw cdLaw ctLaw, fun s v => .of_eq rfl, fun base _ _ => ?_⟩
  have DInt : Dn l.prog w K mg base 1 "is_integer" ["value"] spInt fInt _ := ⟨ok_int FInt B, PySem.W.mg_of X G aInt, kInt, bInt⟩
  have DVer : Dn l.prog w K mg base 2 "is_version" ["value"] spVer fVer _ := ⟨ok_ver FVer B DInt, PySem.W.mg_of X G aVer, kVer, bVer⟩
  have DReqV : Dn l.prog w K mg base 3 "require_version" ["value"] spReqV fReqV _ := ⟨ok_reqV FReqV DVer, PySem.W.mg_of X G aReqV, kReqV, bReqV⟩
  have DWin : Dn l.prog w K mg base 3 "is_window" ["value"] spWin fWin _ := ⟨ok_win FWin B DVer, PySem.W.mg_of X G aWin, kWin, bWin⟩
  have DReqW : Dn l.prog w K mg base 4 "require_window" ["value"] spReqW fReqW _ := ⟨ok_reqW FReqW DWin, PySem.W.mg_of X G aReqW, kReqW, bReqW⟩
  have DReqL : Dn l.prog w K mg base 4 "require_windows" ["value"] spReqL fReqL _ := ⟨ok_reqL FReqL B DWin, PySem.W.mg_of X G aReqL, kReqL, bReqL⟩
  have DReach : Dn l.prog w K mg base 1 "reaches" ["window", "version"] spReach fReach _ := ⟨ok_reach FReach, PySem.W.mg_of X G aReach, kReach, bReach⟩
  have DCont : Dn l.prog w K mg base 5 "contains" ["window", "version"] spCont fCont _ := ⟨ok_cont FCont DReqW DReqV DReach, PySem.W.mg_of X G aCont, kCont, bCont⟩
  have DRise : Dn l.prog w K mg base 5 "rises" ["first", "second"] spRise fRise _ := ⟨ok_rise FRise DReqW DReach, PySem.W.mg_of X G aRise, kRise, bRise⟩
  have DFall : Dn l.prog w K mg base 6 "first_falling" ["windows"] spFall fFall _ := ⟨ok_fall FFall B DReqL DRise, PySem.W.mg_of X G aFall, kFall, bFall⟩
  have DLeast : Dn l.prog w K mg base 7 "least_reaching" ["windows", "version"] spLeast fLeast _ := ⟨ok_least FLeast B DFall DReqV DReach, PySem.W.mg_of X G aLeast, kLeast, bLeast⟩
  have DRng : Dn l.prog w K mg base 1 "_law_rng" ["_law_script", "_law_k"] (spRng K) fRng _ := ⟨ok_rng FRng B, PySem.W.mg_of X G aRng, kRng, bRng⟩
  have DDraw : Dn l.prog w K mg base 1 "_law_draw" ["_law_rng_here", "_law_many"] spDraw fDraw _ := ⟨ok_draw FDraw B, PySem.W.mg_of X G aDraw, kDraw, bDraw⟩
  have DChoice : Dn l.prog w K mg base 2 "_law_choice" ["_law_rng_here", "_law_options"] spChoice fChoice _ := ⟨ok_choice FChoice B DDraw, PySem.W.mg_of X G aChoice, kChoice, bChoice⟩
  have DMake : Dn l.prog w K mg base 2 "_law_windows" ["_law_rng_here", "_law_many", "_law_loose"] spMake fMake _ := ⟨ok_make FMake B DDraw, PySem.W.mg_of X G aMake, kMake, bMake⟩
  have DTop : Dn l.prog w K mg base 1 "_law_top" ["_law_one"] spTop fTop _ := ⟨ok_top FTop, PySem.W.mg_of X G aTop, kTop, bTop⟩
  have DFalls : Dn l.prog w K mg base 2 "_law_falls" ["_law_one", "_law_other"] spFalls fFalls _ := ⟨ok_falls FFalls DTop, PySem.W.mg_of X G aFalls, kFalls, bFalls⟩
  have DFirst : Dn l.prog w K mg base 1 "_law_first" ["_law_flags"] spFirst fFirst _ := ⟨ok_first FFirst B, PySem.W.mg_of X G aFirst, kFirst, bFirst⟩
  have DRepl : Dn l.prog w K mg base 2 "_law_replaced" ["_law_rng_here", "_law_some"] spRepl fRepl _ := ⟨ok_repl FRepl B DDraw, PySem.W.mg_of X G aRepl, kRepl, bRepl⟩
  have DMove : Dn l.prog w K mg base 1 "_law_moved" ["_law_some", "_law_far"] spMove fMove _ := ⟨ok_move FMove, PySem.W.mg_of X G aMove, kMove, bMove⟩
  have GR := ok_right (P := l.prog) (w := w) (base := base) FRight B DFalls DFirst DFall DLeast DRise DCont DTop DDraw (kbFall FFall) (kbLeast FLeast)
  exact ok_law FLaw B DRng DDraw DMake DMove DChoice DRepl GR (PySem.W.mg_of X G aRight) kRight bRight DRise DCont (kbRise FRise) (kbCont FCont)
end KP
open PySem PySem.W PyProof.Rows
set_option maxHeartbeats 0 in
theorem PySem.Challenge.cw_groupsteps_k13_whole_rising_lists_holds : PySem.Challenge.rw_groupsteps_k13_whole_rising_lists.Holds := by
  w_on; o_law; k_head; (case hw => w_witness2)
  k_fill
  refine KB.walk_ofG (l := PySem.Challenge.rw_groupsteps_k13_whole_rising_lists) (n := 63) (k := 9) (x := "_law_script") (sp := KP.spLaw) rfl (by decide) rfl ⟨rfl, by decide, by decide⟩ (fun w h Y => PySem.W.kIn_of Y) ?F (fun _ _ a ns hl hS => ⟨a, ns, rfl, hS, hl, fun _ => rfl⟩)
  case F =>
    intro w mg fa h KX G hmg
    refine' KP.all_mk KX G hmg ?aInt ?lInt ?cInt ?kInt ?aVer ?lVer ?cVer ?kVer ?aReqV ?lReqV ?cReqV ?kReqV ?aWin ?lWin ?cWin ?kWin ?aReqW ?lReqW ?cReqW ?kReqW ?aReqL ?lReqL ?cReqL ?kReqL ?aReach ?lReach ?cReach ?kReach ?aCont ?lCont ?cCont ?kCont ?aRise ?lRise ?cRise ?kRise ?aFall ?lFall ?cFall ?kFall ?aLeast ?lLeast ?cLeast ?kLeast ?aRng ?lRng ?cRng ?kRng ?aDraw ?lDraw ?cDraw ?kDraw ?aChoice ?lChoice ?cChoice ?kChoice ?aMake ?lMake ?cMake ?kMake ?aTop ?lTop ?cTop ?kTop ?aFalls ?lFalls ?cFalls ?kFalls ?aFirst ?lFirst ?cFirst ?kFirst ?aRepl ?lRepl ?cRepl ?kRepl ?aMove ?lMove ?cMove ?kMove ?aRight ?lRight ?cRight ?kRight ?aLaw ?lLaw ?cLaw ?kLaw ?z0 ?z1 ?z2 ?z3 ?z4 ?z5 ?z6 ?z7 ?z8 ?z9 ?z10 ?z11 ?z12 ?z13
    (case aInt => k_is)
    (case lInt => k_is)
    (case cInt => k_is)
    (case kInt => k_is)
    (case aVer => k_is)
    (case lVer => k_is)
    (case cVer => k_is)
    (case kVer => k_is)
    (case aReqV => k_is)
    (case lReqV => k_is)
    (case cReqV => k_is)
    (case kReqV => k_is)
    (case aWin => k_is)
    (case lWin => k_is)
    (case cWin => k_is)
    (case kWin => k_is)
    (case aReqW => k_is)
    (case lReqW => k_is)
    (case cReqW => k_is)
    (case kReqW => k_is)
    (case aReqL => k_is)
    (case lReqL => k_is)
    (case cReqL => k_is)
    (case kReqL => k_is)
    (case aReach => k_is)
    (case lReach => k_is)
    (case cReach => k_is)
    (case kReach => k_is)
    (case aCont => k_is)
    (case lCont => k_is)
    (case cCont => k_is)
    (case kCont => k_is)
    (case aRise => k_is)
    (case lRise => k_is)
    (case cRise => k_is)
    (case kRise => k_is)
    (case aFall => k_is)
    (case lFall => k_is)
    (case cFall => k_is)
    (case kFall => k_is)
    (case aLeast => k_is)
    (case lLeast => k_is)
    (case cLeast => k_is)
    (case kLeast => k_is)
    (case aRng => k_is)
    (case lRng => k_is)
    (case cRng => k_is)
    (case kRng => k_is)
    (case aDraw => k_is)
    (case lDraw => k_is)
    (case cDraw => k_is)
    (case kDraw => k_is)
    (case aChoice => k_is)
    (case lChoice => k_is)
    (case cChoice => k_is)
    (case kChoice => k_is)
    (case aMake => k_is)
    (case lMake => k_is)
    (case cMake => k_is)
    (case kMake => k_is)
    (case aTop => k_is)
    (case lTop => k_is)
    (case cTop => k_is)
    (case kTop => k_is)
    (case aFalls => k_is)
    (case lFalls => k_is)
    (case cFalls => k_is)
    (case kFalls => k_is)
    (case aFirst => k_is)
    (case lFirst => k_is)
    (case cFirst => k_is)
    (case kFirst => k_is)
    (case aRepl => k_is)
    (case lRepl => k_is)
    (case cRepl => k_is)
    (case kRepl => k_is)
    (case aMove => k_is)
    (case lMove => k_is)
    (case cMove => k_is)
    (case kMove => k_is)
    (case aRight => k_is)
    (case lRight => k_is)
    (case cRight => k_is)
    (case kRight => k_is)
    (case aLaw => k_is)
    (case lLaw => k_is)
    (case cLaw => k_is)
    (case kLaw => k_is)
    (case z0 => k_is)
    (case z1 => k_is)
    (case z2 => k_is)
    (case z3 => k_is)
    (case z4 => k_is)
    (case z5 => k_is)
    (case z6 => k_is)
    (case z7 => k_is)
    (case z8 => k_is)
    (case z9 => k_is)
    (case z10 => k_is)
    (case z11 => k_is)
    (case z12 => k_is)
    (case z13 => k_is)
